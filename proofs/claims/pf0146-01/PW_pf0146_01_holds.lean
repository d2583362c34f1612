import PyProof.Rows.All
import Wide.All
import OpenK.AllK
import Wide.FinOn
import KE.KSuper
import PyProof.IsiH_list
import KE.KDictOf
import KE.KDictSum
import PyProof.Rows.SortStr
import PyProof.Rows.SortShellK
import KE.KSortTup
import PySem.Challenge.RW_pf0146_01
set_option maxRecDepth 100000
set_option Elab.async false
set_option tactic.hygienic false
set_option genSizeOf false
set_option genInjectivity false
set_option bootstrap.genMatcherCode false
set_option linter.unusedVariables false
set_option linter.unusedSimpArgs false
set_option linter.defProp false
set_option genCtorIdx false
open PySem PySem.W PyProof.Rows PySem.Calls
namespace J.Internal
def LB:=@Nat.le_trans
def LC:=@List.length_append
def LD:=@Bool.and_eq_true_iff
def LE:=@List.getElem?_eq_some_iff
def LF:=@List.length_map
def LG:=@List.append_assoc
def LH:=@List.getElem?_eq_getElem
def LI:=@List.mem_cons
def LJ:=@List.mem_singleton
def LK:=@List.mem_cons_of_mem
def LL:=@List.mem_cons_self
def LM:=@Option.some.inj
def LN:=@Nat.lt_of_le_of_lt
def LO:=@List.getElem?_concat_length
def LP:=@List.prefix_refl
def LQ:=@Int.natCast_nonneg
def LS:=@List.getElem?_append_left
def LU:=@Int.ofNat_le
def LV:=@Nat.add_le_add_left
def LW:=@List.append_nil
def LX:=@Nat.mul_le_mul_left
def LY:=@Decidable.em
def LZ:=@Nat.le_refl
def L4:=@Nat.ne_of_lt
def L5:=@List.map_map
def L6:=@Nat.le_add_right
def L7:=@Nat.lt_of_lt_of_le
def L8:=@Bool.false_ne_true
def L9:=@List.all_eq_true
def Ma:=@Nat.le_of_eq
def Mb:=@List.length_singleton
def Mc:=@List.mem_map
def Mf:=@Nat.add_le_add
def Mg:=@Nat.lt_irrefl
def Mh:=@List.map_append
def Mi:=@Int.ofNat_lt
def Mj:=@Nat.add_assoc
def Mk:=@List.length_range
def Ml:=@List.getElem?_map
def Mm:=@List.mem_append
def Mn:=@Nat.lt_of_succ_lt_succ
def Mp:=@List.nodup_cons
def Mq:=@List.pairwise_cons
def Mr:=@Nat.zero_le
def Ms:=@Nat.succ_pos
def Mt:=@Int.le_trans
def Mu:=@Nat.le_of_lt
def Mv:=@Bool.not_eq_true'
def Mw:=@Nat.not_lt_zero
def Mx:=@List.length_take
def My:=@Nat.min_eq_left
def Mz:=@Nat.le_of_lt_succ
def MA:=@List.not_lt
def MB:=@Nat.add_le_add_right
inductive V where
 |none|bool (b:Bool)|int (i:Int)|str (l:List Nat)|byt (l:List UInt8)
 |tup (xs:List V)|lst (xs:List V)|dct (kvs:List (List Nat × V))|rcd (c:Nat) (fs:List (Nat × V))
 |rng (lo step:Int) (n:Nat)|obj (i:Nat)
inductive O where
 |lst (xs:List V)|dct (kvs:List (List Nat × V))|ba (l:List UInt8)|ins (c:Nat) (fs:List (Nat × V))|dead
noncomputable abbrev Hp:=List O
noncomputable abbrev ai:=List (Option V)
inductive Out(α:Type) where
 |ok (a:α) (H:Hp)|exc (H:Hp)|bad
noncomputable def Out.vb{α β:Type}(x:Out α)(f:α->Hp->Out β):Out β:=match x with
 |.ok a H=>f a H
 |.exc _=>.bad
 |.bad=>.bad
noncomputable def Out.sb{α β:Type}(x:Out α)(f:α->Hp->Out β):Out β:=match x with
 |.ok a H=>f a H
 |.exc H=>.exc H
 |.bad=>.bad
inductive GX(u:Unit) where|add|sub|mul|fdiv|mod|pow|shl|shr|band|bor
noncomputable abbrev BK:=GX ()
inductive GY(u:Unit) where|eq|ne|lt|le|gt|ge|is|isin|notin
noncomputable abbrev pQ:=GY ()
inductive J5(u:Unit) where|len|abs|int|chr|ord|bytes|dict|sorted|min|max
noncomputable abbrev B1:=J5 ()
inductive Tg where|one (i:Nat)|two (i j:Nat)
mutual
inductive E where
 |var (i:Nat)|gv (k:Nat)|frz (i:Nat)
 |cnone|cbool (b:Bool)|cint (i:Int)|cstr (l:List Nat)|cbyt (l:List UInt8)
 |bin (op:BK) (a b:E)|neg (a:E)|not (a:E)
 |cmp (op:pQ) (a b:E)|cmp2 (o1 o2:pQ) (a b c:E)
 |and (a b:E)|or (a b:E)
 |or3 (a b c:E)
 |ife (t a b:E)
 |tup (es:Es)|lst (own:Bool) (es:Es)|dct0
 |sub (a i:E)|sl (a lo hi:E)|slTo (a hi:E)
 |attr (o:E) (k:Nat)
 |call (f:Nat) (es:Es)|meth (f:Nat) (o:E) (es:Es)|new (c:Nat) (es:Es)
 |b1 (op:B1) (a:E)|ba0|rng (es:Es)|joinS (a:E)|joinB (a:E)
 |app (o a:E)|ext (o a:E)
 |comp (own:Bool) (elt:E) (t:Tg) (it:E)|compIf (own:Bool) (elt:E) (t:Tg) (it c:E)
 |bad
inductive Es where|nil|cons (e:E) (es:Es)
end
mutual
inductive S where
 |asg (i:Nat) (e:E)|asg2 (i j:Nat) (e:E)|asgD2 (i j:Nat) (a b:E)|asgD3 (i j k:Nat) (a b c:E)
 |asgA (o:E) (k:Nat) (e:E)|asgS (o i e:E)
 |xpr (e:E)|ret (e:E)|ite (t:E) (a b:Ss)
 |for (t:Tg) (it:E) (body:Ss)|whl (t:E) (body:Ss)
 |rse (e:E)|tryx (body hb:Ss)|bad
inductive Ss where|nil|cons (s:S) (ss:Ss)
end
noncomputable def V.ctorIdx(v:V):Nat:=V.casesOn (motive_1:=λ_=>Nat) v 0 (λ_=>1) (λ_=>2) (λ_=>3) (λ_=>4) (λ_=>5) (λ_=>6) (λ_=>7) (λ_ _=>8) (λ_ _ _=>9) (λ_=>10)
noncomputable def O.ctorIdx(o:O):Nat:=O.casesOn (motive:=λ_=>Nat) o (λ_=>0) (λ_=>1) (λ_=>2) (λ_ _=>3) 4
noncomputable def Out.ctorIdx{α:Type}(x:Out α):Nat:=Out.casesOn (motive:=λ_=>Nat) x (λ_ _=>0) (λ_=>1) 2
section
variable{α:Type}
noncomputable def V.onI(v:V)(f:Int->α)(d:α):α:=V.casesOn (motive_1:=λ_=>α) v d (λ_=>d) f (λ_=>d) (λ_=>d) (λ_=>d) (λ_=>d) (λ_=>d) (λ_ _=>d) (λ_ _ _=>d) (λ_=>d)
noncomputable def V.onS(v:V)(f:List Nat->α)(d:α):α:=V.casesOn (motive_1:=λ_=>α) v d (λ_=>d) (λ_=>d) f (λ_=>d) (λ_=>d) (λ_=>d) (λ_=>d) (λ_ _=>d) (λ_ _ _=>d) (λ_=>d)
noncomputable def V.onY(v:V)(f:List UInt8->α)(d:α):α:=V.casesOn (motive_1:=λ_=>α) v d (λ_=>d) (λ_=>d) (λ_=>d) f (λ_=>d) (λ_=>d) (λ_=>d) (λ_ _=>d) (λ_ _ _=>d) (λ_=>d)
noncomputable def V.onT(v:V)(f:List V->α)(d:α):α:=V.casesOn (motive_1:=λ_=>α) v d (λ_=>d) (λ_=>d) (λ_=>d) (λ_=>d) f (λ_=>d) (λ_=>d) (λ_ _=>d) (λ_ _ _=>d) (λ_=>d)
noncomputable def V.onL(v:V)(f:List V->α)(d:α):α:=V.casesOn (motive_1:=λ_=>α) v d (λ_=>d) (λ_=>d) (λ_=>d) (λ_=>d) (λ_=>d) f (λ_=>d) (λ_ _=>d) (λ_ _ _=>d) (λ_=>d)
noncomputable def V.onD(v:V)(f:List (List Nat × V)->α)(d:α):α:=V.casesOn (motive_1:=λ_=>α) v d (λ_=>d) (λ_=>d) (λ_=>d) (λ_=>d) (λ_=>d) (λ_=>d) f (λ_ _=>d) (λ_ _ _=>d) (λ_=>d)
noncomputable def V.onB(v:V)(f:Bool->α)(d:α):α:=V.casesOn (motive_1:=λ_=>α) v d f (λ_=>d) (λ_=>d) (λ_=>d) (λ_=>d) (λ_=>d) (λ_=>d) (λ_ _=>d) (λ_ _ _=>d) (λ_=>d)
noncomputable def V.onO(v:V)(f:Nat->α)(d:α):α:=V.casesOn (motive_1:=λ_=>α) v d (λ_=>d) (λ_=>d) (λ_=>d) (λ_=>d) (λ_=>d) (λ_=>d) (λ_=>d) (λ_ _=>d) (λ_ _ _=>d) f
noncomputable def V.onG(v:V)(f:Int->Int->Nat->α)(d:α):α:=V.casesOn (motive_1:=λ_=>α) v d (λ_=>d) (λ_=>d) (λ_=>d) (λ_=>d) (λ_=>d) (λ_=>d) (λ_=>d) (λ_ _=>d) f (λ_=>d)
noncomputable def V.onN(v:V)(x d:α):α:=V.casesOn (motive_1:=λ_=>α) v x (λ_=>d) (λ_=>d) (λ_=>d) (λ_=>d) (λ_=>d) (λ_=>d) (λ_=>d) (λ_ _=>d) (λ_ _ _=>d) (λ_=>d)
end
noncomputable def DS{α β:Type}(l:List α)(f:α->β)(d:β):β:=l.casesOn d λx r=>r.casesOn (f x) λ_ _=>d
noncomputable def pS{α β:Type}(l:List α)(f:α->α->β)(d:β):β:=l.casesOn d λx r=>DS r (f x) d
noncomputable def Jb{α β:Type}(l:List α)(f:α->α->α->β)(d:β):β:=l.casesOn d λx r=>pS r (f x) d
noncomputable def aV(l:ai):Nat->Option V:=l.rec (λ_=>none) λx _ f n=>n.casesOn x f
noncomputable def ao(l:ai):Nat->V->ai:=l.rec (λ_ _=>[]) λx r f n v=>n.casesOn (some v::r) λn=>x::f n v
noncomputable def ak(l:Hp):Nat->Option O:=l.rec (λ_=>none) λx _ f n=>n.casesOn (some x) f
noncomputable def au(l:Hp):Nat->O->Hp:=l.rec (λ_ _=>[]) λx r f n o=>n.casesOn (o::r) λn=>x::f n o
noncomputable def Ba(l:List (Nat × V))(n:Nat):Option V:=l.rec none λp _ f=>if p.1=n then some p.2 else f
noncomputable def iB(l:List (Nat × V))(n:Nat)(v:V):List (Nat × V):=l.rec [(n,v)] λp r f=>if p.1=n then(p.1,v)::r else p::f
noncomputable def fy(l:List (List Nat × V))(n:List Nat):Option V:=l.rec none λp _ f=>if p.1=n then some p.2 else f
noncomputable def cx(l:List (List Nat × V))(n:List Nat)(v:V):List (List Nat × V):=l.rec [(n,v)] λp r f=>if p.1=n then(p.1,v)::r else p::f
noncomputable def V.isObj(v:V):Bool:=v.onO (λ_=>true) false
noncomputable def aq:Nat:=1000000
noncomputable def oA(a b:Option Bool):Option Bool:=a.casesOn none λa=>b.casesOn none λb=>some (a&&b)
noncomputable def fU(f:V->V->Option Bool)(l:List V):List V->Option Bool:=l.rec (λ_=>some true) λx _ g ys=>ys.casesOn (some true) λy ys=>oA (f x y) (g ys)
noncomputable def fV(f:V->V->Option Bool)(l b:List (List Nat × V)):Option Bool:=l.rec (some true) λp _ g=>(fy b p.1).casesOn (some false) λv=>oA (f p.2 v) g
noncomputable def bF(n:Nat):V->V->Option Bool:=n.rec (λ_ _=>none) λ_ g x y=>
 x.onN (y.onN (some true) (y.onY (λ_=>some false) none)) (x.onB (λa=>y.onB (λb=>some (a==b)) none) (x.onI (λa=>y.onI (λb=>some (a==b)) none)
  (x.onS (λa=>y.onS (λb=>some (decide (a=b))) none) (x.onY (λa=>y.onY (λb=>some (decide (a=b))) (y.onN (some false) none))
  (x.onT (λa=>y.onT (λb=>if a.length=b.length then fU g a b else none) none) (x.onL (λa=>y.onL (λb=>if a.length=b.length then fU g a b else some false) none)
  (x.onD (λa=>y.onD (λb=>if a.length=b.length then fV g a b else some false) none) none)))))))
noncomputable def n6(x y:V):Option Bool:=bF 6 x y
noncomputable def pT(k:Int)(l:List V):Option Bool:=l.rec (some false) λx _ g=>x.onI (λi=>g.map ((i==k)||·)) none
noncomputable def ms(l:List V):Option Bool:=l.rec (some false) λx _ g=>x.onN (g.map (true||·)) (x.onY (λ_=>g.map (false||·)) none)
noncomputable def ln(x:V)(xs:List V):Option Bool:=x.onI (λk=>pT k xs) (x.onN (ms xs) none)
noncomputable def iA(l:List Nat):List Nat->Bool:=l.rec (λys=>ys.casesOn false λ_ _=>true) λa _ g ys=>ys.casesOn false λb s=>if a<b then true else if b<a then false else g s
noncomputable def Jc(l:List V):List V->Bool:=l.rec (λys=>ys.casesOn false λ_ _=>true) λx _ g ys=>ys.casesOn false λy s=>x.onI (λa=>y.onI (λb=>if a<b then true else if b<a then false else g s) false) false
noncomputable def D2(a b:V):Bool:=a.onT (λx=>b.onT (λy=>Jc x y) false) false
noncomputable def lq(lt:α->α->Bool)(x:α)(l:List α):List α:=l.rec [x] λy r g=>if lt x y then x::y::r else y::g
noncomputable def iX(lt:α->α->Bool)(l:List α):List α->List α:=l.rec (λacc=>acc) λx _ g acc=>g (lq lt x acc)
noncomputable def small(x:Int):Bool:=decide (-(2 ^ 62)<x)&&decide (x<2 ^ 62)
noncomputable def pU(l:List V):Bool:=l.rec true λx _ g=>x.onI (λ_=>g) false
noncomputable def mu(l:List V):Bool:=l.rec true λx _ g=>x.onT (λxs=>pU xs&&decide (xs.length=3)&&g) false
noncomputable def Jd(x:V):Option Int:=x.onT (λl=>l.casesOn none λa _=>a.onI some none) none
noncomputable def rO(x y:V):Bool:=(Jd x).casesOn false λa=>(Jd y).casesOn false λb=>a != b
noncomputable def jG(l:List V):Bool:=l.rec true λx r g=>r.all (rO x)&&g
noncomputable def cR(l:List V):Option (List UInt8):=l.rec (some []) λx _ g=>x.onI (λi=>if 0<=i/\i<256 then g.map (UInt8.ofNat i.toNat::·)else none) none
noncomputable def joinB(l:List V):Option (List UInt8):=l.rec (some []) λx _ g=>x.onY (λl=>g.map (l++·)) none
noncomputable def joinS(l:List V):Option (List Nat):=l.rec (some []) λx _ g=>x.onS (λl=>g.map (l++·)) none
noncomputable def dq(l:List V):List (List Nat × V)->Option (List (List Nat × V)):=l.rec some λx _ g acc=>x.onT (λl=>pS l (λk v=>k.onS (λk=>g (cx acc k v)) none) none) none
noncomputable def GZ(l:List Nat):Option Nat:=l.casesOn none λx r=>some (r.foldl (λa b=>if b<a then b else a) x)
noncomputable def G1(l:List Nat):Option Nat:=l.casesOn none λx r=>some (r.foldl (λa b=>if a<b then b else a) x)
noncomputable def jb(lo step:Int)(n:Nat):List V:=n.rec (motive:=λ_=>Int->List V) (λ_=>[]) (λ_ g lo=>.int lo::g (lo+step)) lo
noncomputable def cy(lo hi step:Int):Nat:=
 if 0<step then(if lo<hi then((hi - lo - 1) / step+1).toNat else 0)
 else(if hi<lo then((lo - hi - 1) / (-step)+1).toNat else 0)
noncomputable def elems(v:V):Option (List V):=
 v.onL some (v.onT some (v.onY (λl=>some (l.map λb=>.int b.toNat)) (v.onS (λl=>some (l.map λc=>.str [c])) (v.onD (λkvs=>some (kvs.map λp=>.str p.1)) (v.onG (λlo step n=>some (jb lo step n)) none)))))
noncomputable def okv(v:V)(H:Hp):Out V:=.ok v H
noncomputable def guard(c:Bool)(x:Out α):Out α:=match c with
 |true=>x
 |false=>.bad
noncomputable def aL(op:BK)(a b:V)(H:Hp):Out V:=match op with
 |.add=>a.onI (λx=>b.onI (λy=>.ok (.int (x+y)) H) .bad) (a.onY (λx=>b.onY (λy=>guard (decide ((x++y).length<=aq)) (.ok (.byt (x++y)) H)) .bad) (a.onS (λx=>b.onS (λy=>guard (decide ((x++y).length<=aq)) (.ok (.str (x++y)) H)) .bad) (a.onL (λx=>b.onL (λy=>guard (decide ((x++y).length<=aq)) (.ok (.lst (x++y)) H)) .bad) (.bad))))
 |.sub=>a.onI (λx=>b.onI (λy=>.ok (.int (x - y)) H) .bad) .bad
 |.mul=>a.onI (λx=>b.onI (λy=>guard (small x||small y) (.ok (.int (x*y)) H)) .bad) .bad
 |.fdiv=>a.onI (λx=>b.onI (λy=>guard (decide (y≠0)) (.ok (.int (x.fdiv y)) H)) .bad) .bad
 |.mod=>a.onI (λx=>b.onI (λy=>guard (decide (y≠0)) (.ok (.int (x.fmod y)) H)) .bad) .bad
 |.pow=>a.onI (λx=>b.onI (λy=>guard (decide (0<=x)&&decide (x<1024)&&decide (0<=y)&&decide (y<1024)) (.ok (.int (x ^ y.toNat)) H)) .bad) .bad
 |.shl=>a.onI (λx=>b.onI (λy=>guard (small x&&decide (0<=y)&&decide (y<64)) (.ok (.int (x*2 ^ y.toNat)) H)) .bad) .bad
 |.shr=>a.onI (λx=>b.onI (λy=>guard (decide (0<=y)&&decide (y<64)) (.ok (.int (x.fdiv (2 ^ y.toNat))) H)) .bad) .bad
 |.band=>a.onI (λx=>b.onI (λy=>guard (decide (0<=x)&&decide (0<=y)) (.ok (.int (x.toNat &&& y.toNat:Nat)) H)) .bad) .bad
 |.bor=>a.onI (λx=>b.onI (λy=>guard (decide (0<=x)&&decide (0<=y)) (.ok (.int (x.toNat|||y.toNat:Nat)) H)) .bad) .bad
noncomputable def optB(o:Option Bool)(H:Hp):Out V:=match o with
 |some b=>.ok (.bool b) H
 |none=>.bad
noncomputable def bo(o:Option α)(f:α->Out β):Out β:=match o with
 |some x=>f x
 |none=>.bad
section
variable{α:Type}
noncomputable def O.onL(o:O)(f:List V->α)(d:α):α:=O.casesOn (motive:=λ_=>α) o f (λ_=>d) (λ_=>d) (λ_ _=>d) d
noncomputable def O.onD(o:O)(f:List (List Nat × V)->α)(d:α):α:=O.casesOn (motive:=λ_=>α) o (λ_=>d) f (λ_=>d) (λ_ _=>d) d
noncomputable def O.onB(o:O)(f:List UInt8->α)(d:α):α:=O.casesOn (motive:=λ_=>α) o (λ_=>d) (λ_=>d) f (λ_ _=>d) d
noncomputable def O.onI(o:O)(f:Nat->List (Nat × V)->α)(d:α):α:=O.casesOn (motive:=λ_=>α) o (λ_=>d) (λ_=>d) (λ_=>d) f d
noncomputable def V.onR(v:V)(f:Nat->List (Nat × V)->α)(d:α):α:=V.casesOn (motive_1:=λ_=>α) v d (λ_=>d) (λ_=>d) (λ_=>d) (λ_=>d) (λ_=>d) (λ_=>d) (λ_=>d) f (λ_ _ _=>d) (λ_=>d)
end
noncomputable def V.at(H:Hp)(v:V)(f:Nat->O->Out β):Out β:=v.onO (λi=>bo (ak H i) (f i)) .bad
noncomputable def V.isAt(H:Hp)(v:V)(f:O->Bool):Bool:=v.onO (λi=>(ak H i).any f) false
noncomputable def V.onOL(H:Hp)(v:V)(f:List V->Out β):Out β:=v.at H λ_ o=>o.onL f .bad
noncomputable def aw(op:pQ)(a b:V)(H:Hp):Out V:=match op with
 |.eq=>optB (n6 a b) H
 |.ne=>a.onI (λx=>b.onI (λy=>.ok (.bool (!(x==y))) H) .bad) (a.onB (λx=>b.onB (λy=>.ok (.bool (!(x==y))) H) .bad) (a.onL (λx=>b.onL (λy=>optB ((n6 (.lst x) (.lst y)).map (!·)) H) .bad) .bad))
 |.lt=>a.onI (λx=>b.onI (λy=>.ok (.bool (decide (x<y))) H) .bad) (a.onS (λx=>b.onS (λy=>.ok (.bool (iA x y)) H) .bad) .bad)
 |.le=>a.onI (λx=>b.onI (λy=>.ok (.bool (decide (x<=y))) H) .bad) .bad
 |.gt=>a.onI (λx=>b.onI (λy=>.ok (.bool (decide (y<x))) H) .bad) (a.onS (λx=>b.onS (λy=>.ok (.bool (iA y x)) H) .bad) .bad)
 |.ge=>a.onI (λx=>b.onI (λy=>.ok (.bool (decide (y<=x))) H) .bad) (a.onS (λx=>b.onS (λy=>.ok (.bool (!iA x y)) H) .bad) .bad)
 |.is=>b.onN (a.onN (.ok (.bool true) H) (a.onY (λ_=>.ok (.bool false) H) (a.onI (λ_=>.ok (.bool false) H) .bad))) .bad
 |.isin=>b.onL (λxs=>optB (ln a xs) H) .bad
 |.notin=>b.onL (λxs=>optB ((ln a xs).map (!·)) H) (b.onT (λxs=>optB ((ln a xs).map (!·)) H) (b.onOL H λxs=>optB ((ln a xs).map (!·)) H))
noncomputable def eR(xs:List V)(i:Int):Option V:=
 if 0<=i then(if i<2 ^ 62 then xs[i.toNat]? else none)
 else if -(xs.length:Int)<=i then xs[(i+xs.length).toNat]? else none
noncomputable def optV(o:Option V)(H:Hp):Out V:=match o with
 |some v=>.ok v H
 |none=>.bad
noncomputable def c0(a i:V)(H:Hp):Out V:=
 i.onI (λi=>a.onT (λxs=>optV (eR xs i) H) (a.onL (λxs=>optV (eR xs i) H) (a.onOL H λxs=>optV (eR xs i) H))) (i.onS (λk=>a.onD (λkvs=>optV (fy kvs k) H) .bad) .bad)
noncomputable def n7(a:V)(lo hi:Int)(H:Hp):Out V:=
 guard (decide (0<=lo)&&decide (lo<2 ^ 62)&&decide (0<=hi)&&decide (hi<2 ^ 62)) (a.onY (λl=>.ok (.byt ((l.take hi.toNat).drop lo.toNat)) H) .bad)
noncomputable def mw(a:V)(hi:Int)(H:Hp):Out V:=
 guard (decide (0<=hi)&&decide (hi<2 ^ 62)) (a.onL (λl=>.ok (.lst (l.take hi.toNat)) H) .bad)
noncomputable def gp(c k:Nat):Bool:=match c with
 |0=>decide (k<2)
 |1=>decide (k=2)
 |2=>decide (3<=k)&&decide (k<8)
 |_=>false
noncomputable def aX(o:V)(k:Nat)(H:Hp):Out V:=
 o.onR (λc fs=>guard (gp c k) (optV (Ba fs k) H)) (o.at H λ_ ob=>ob.onI (λc fs=>guard (gp c k) (optV (Ba fs k) H)) .bad)
noncomputable def Bb(a:V)(H:Hp):Option Nat:=a.onS (λl=>some l.length) (a.onY (λl=>some l.length) (a.onT (λl=>some l.length) (a.onL (λl=>some l.length) (a.onD (λl=>some l.length)
 (a.onO (λi=>(ak H i).bind λo=>o.onL (λl=>some l.length) (o.onD (λl=>some l.length) none)) none)))))
noncomputable def bG(op:B1)(a:V)(H:Hp):Out V:=match op with
 |.len=>bo (Bb a H) λn=>.ok (.int n) H
 |.abs=>a.onI (λi=>.ok (.int i.natAbs) H) .bad
 |.int=>a.onI (λi=>.ok (.int i) H) (a.onB (λb=>.ok (.int (if b then 1 else 0)) H) .bad)
 |.chr=>a.onI (λi=>guard (decide (0<=i)&&decide (i<256)) (.ok (.str [i.toNat]) H)) .bad
 |.ord=>a.onS (λl=>DS l (λc=>.ok (.int c) H) .bad) .bad
 |.bytes=>a.onL (λxs=>bo (cR xs) λl=>.ok (.byt l) H) (a.onI (λn=>guard (decide (0<=n)&&decide (n<=1000)) (.ok (.byt (List.replicate n.toNat 0)) H)) (a.at H λ_ o=>o.onB (λl=>.ok (.byt l) H) .bad))
 |.dict=>a.onL (λxs=>bo (dq xs []) λkvs=>.ok (.dct kvs) H) (a.onD (λkvs=>.ok (.dct kvs) H) .bad)
 |.sorted=>a.onD (λkvs=>guard (decide (kvs.length<64)) (.ok (.lst ((iX iA (kvs.map (·.1)) []).map .str)) H)) (a.onL (λxs=>guard (mu xs&&jG xs&&decide (xs.length<64)) (.ok (.lst (iX D2 xs [])) H)) .bad)
 |.min=>a.onS (λl=>bo (GZ l) λc=>.ok (.str [c]) H) .bad
 |.max=>a.onS (λl=>bo (G1 l) λc=>.ok (.str [c]) H) .bad
noncomputable def bW(vs:List V)(H:Hp):Out V:=
 DS vs (λa=>a.onI (λhi=>guard (small hi&&decide (hi<=1000000)) (.ok (.rng 0 1 (cy 0 hi 1)) H)) .bad)
 (pS vs (λa b=>a.onI (λlo=>b.onI (λhi=>guard (small lo&&small hi&&decide (cy lo hi 1<=1000000)) (.ok (.rng lo 1 (cy lo hi 1)) H)) .bad) .bad)
 (Jb vs (λa b c=>a.onI (λlo=>b.onI (λhi=>c.onI (λst=>guard (small lo&&small hi&&small st&&decide (st≠0)&&decide (cy lo hi st<=1000000)) (.ok (.rng lo st (cy lo hi st)) H)) .bad) .bad) .bad) .bad))
noncomputable def bN(t:Tg)(v:V)(σ:ai):Option ai:=match t with
 |.one i=>some (ao σ i v)
 |.two i j=>v.onT (λxs=>pS xs (λa b=>some (ao (ao σ i a) j b)) none) none
noncomputable def aE(f:V->Hp->Out (Option V))(l:List V):Hp->Out (List V):=
 l.rec (λH=>.ok [] H) λx _ g H=>(f x H).vb λr H1=>(g H1).vb λrs H2=>match r with
  |some v=>guard (!v.isObj) (.ok (v::rs) H2)
  |none=>.ok rs H2
inductive Fl where|next|ret (v:V)
noncomputable def bU(f:V->ai->Hp->Out (Fl × ai))(l:List V):ai->Hp->Out (Fl × ai):=
 l.rec (λσ H=>.ok (.next,σ) H) λx _ g σ H=>(f x σ H).sb λr H1=>match r.1 with
  |.next=>g r.2 H1
  |.ret v=>.ok (.ret v,r.2) H1
noncomputable def n8(t:ai->Hp->Out Bool)(f:ai->Hp->Out (Fl × ai))(n:Nat):ai->Hp->Out (Fl × ai):=
 n.rec (λ_ _=>.bad) λ_ g σ H=>(t σ H).vb λb H1=>match b with
  |false=>.ok (.next,σ) H1
  |true=>(f σ H1).vb λr H2=>match r.1 with
   |.next=>g r.2 H2
   |.ret v=>.ok (.ret v,r.2) H2
noncomputable def asB(x:Out V):Out Bool:=x.vb λv H=>v.onB (λb=>.ok b H) .bad
noncomputable def mk(own:Bool)(xs:List V)(H:Hp):Out V:=match own with
 |true=>.ok (.obj H.length) (H++[.lst xs])
 |false=>.ok (.lst xs) H
noncomputable def eC(v:V)(H:Hp):Out V:=v.at H λi o=>o.onL (λxs=>.ok (.lst xs) (au H i .dead)) (o.onD (λkvs=>.ok (.dct kvs) (au H i .dead)) .bad)
noncomputable def cj(o a:V)(H:Hp):Out V:=o.at H λi ob=>ob.onL (λxs=>guard (!a.isObj&&decide (xs.length<aq)) (.ok .none (au H i (.lst (xs++[a]))))) .bad
noncomputable def eD(o a:V)(H:Hp):Out V:=o.at H λi ob=>ob.onB (λl=>a.onY (λx=>guard (decide ((l++x).length<=aq)) (.ok .none (au H i (.ba (l++x))))) .bad) .bad
noncomputable def dU(o i v:V)(H:Hp):Out Unit:=o.at H λj ob=>ob.onL (λxs=>i.onI (λk=>guard (decide (0<=k)&&decide (k<xs.length)&&!v.isObj) (.ok () (au H j (.lst (xs.set k.toNat v))))) .bad)
 (ob.onD (λkvs=>i.onS (λk=>guard (decide (kvs.length<aq)&&!v.isObj) (.ok () (au H j (.dct (cx kvs k v))))) .bad) .bad)
noncomputable def jH(o:V)(k:Nat)(v:V)(H:Hp):Out Unit:=o.at H λj ob=>ob.onI (λc fs=>guard (gp c k&&decide (fs.length<50)) (.ok () (au H j (.ins c (iB fs k v))))) .bad
structure jc where
 gv:Nat->V
 ini:Nat->Nat
 fix:Nat->Bool
 cls:Nat->Nat
section
variable(P:jc)(C:Nat->List V->Hp->Out V)
noncomputable def iY(n:Nat)(l:List (Nat × V)):Bool:=l.rec true λp _ g=>p.2.onO (λj=>decide (j<n)) true&&g
noncomputable def a8(n:Nat)(l:Hp):Bool:=l.rec true λo _ g=>o.onI (λ_ fs=>iY n fs) true&&g
noncomputable def eS(c:Nat)(vs:List V)(H:Hp):Out V:=
 (C (P.ini c) (.obj H.length::vs) (H++[.ins c []])).vb λr H1=>r.onN (bo (ak H1 H.length) λo=>o.onI (λk fs=>match P.fix c with
   |true=>guard (iY 0 fs&&a8 H.length (H1.take H.length)) (.ok (.rcd k fs) (H1.take H.length))
   |false=>.ok (.obj H.length) H1) .bad) .bad
noncomputable def jd(c:Nat)(o:V)(H:Hp):Bool:=o.onR (λk _=>decide (k=c)) (o.isAt H λob=>ob.onI (λk _=>decide (k=c)) false)
noncomputable def tI(o:V)(H:Hp):Bool:=o.isAt H λob=>ob.onL (λ_=>true) false
noncomputable def yA(o:V)(H:Hp):Bool:=o.isAt H λob=>ob.onB (λ_=>true) false
mutual
noncomputable def ev:E->ai->Hp->Out V
 |.var i,σ,H=>optV (aV σ i) H
 |.gv k,_,H=>.ok (P.gv k) H
 |.frz i,σ,H=>bo (aV σ i) λv=>eC v H
 |.cnone,_,H=>.ok .none H
 |.cbool b,_,H=>.ok (.bool b) H
 |.cint i,_,H=>.ok (.int i) H
 |.cstr l,_,H=>.ok (.str l) H
 |.cbyt l,_,H=>.ok (.byt l) H
 |.bin op a b,σ,H=>(ev a σ H).vb λx H1=>(ev b σ H1).vb λy H2=>aL op x y H2
 |.neg a,σ,H=>(ev a σ H).vb λx H1=>x.onI (λi=>.ok (.int (-i)) H1) .bad
 |.not a,σ,H=>(ck a σ H).vb λb H1=>.ok (.bool (!b)) H1
 |.cmp op a b,σ,H=>(ev a σ H).vb λx H1=>(ev b σ H1).vb λy H2=>aw op x y H2
 |.cmp2 o1 o2 a b c,σ,H=>(ev a σ H).vb λx H1=>(ev b σ H1).vb λy H2=>(asB (aw o1 x y H2)).vb λr H3=>match r with
  |true=>(ev c σ H3).vb λz H4=>aw o2 y z H4
  |false=>.ok (.bool false) H3
 |.and a b,σ,H=>(asB (ev a σ H)).vb λx H1=>match x with
  |true=>asB (ev b σ H1)|>.vb λy H2=>.ok (.bool y) H2
  |false=>.ok (.bool false) H1
 |.or a b,σ,H=>(asB (ev a σ H)).vb λx H1=>match x with
  |true=>.ok (.bool true) H1
  |false=>asB (ev b σ H1)|>.vb λy H2=>.ok (.bool y) H2
 |.or3 _ _ _,_,_=>.bad
 |.ife t a b,σ,H=>(ck t σ H).vb λr H1=>match r with
  |true=>(ev a σ H1).vb okv
  |false=>(ev b σ H1).vb okv
 |.tup es,σ,H=>(eJ es σ H).vb λvs H1=>guard (!vs.any V.isObj) (.ok (.tup vs) H1)
 |.lst own es,σ,H=>(eJ es σ H).vb λvs H1=>guard (!vs.any V.isObj) (mk own vs H1)
 |.dct0,_,H=>.ok (.obj H.length) (H++[.dct []])
 |.sub a i,σ,H=>(ev a σ H).vb λx H1=>(ev i σ H1).vb λy H2=>c0 x y H2
 |.sl a lo hi,σ,H=>(ev a σ H).vb λx H1=>((ev lo σ H1).vb λy H2=>(ev hi σ H2).vb λz H3=>y.onI (λl=>z.onI (λh=>.ok (l,h) H3) .bad) .bad).vb λw H4=>n7 x w.1 w.2 H4
 |.slTo a hi,σ,H=>(ev a σ H).vb λx H1=>((ev hi σ H1).vb λz H3=>z.onI (λh=>.ok h H3) .bad).vb λw H4=>mw x w H4
 |.attr o k,σ,H=>(ev o σ H).vb λx H1=>(aX x k H1).vb λv H2=>.ok v H2
 |.call f es,σ,H=>(eJ es σ H).vb λvs H1=>C f vs H1
 |.meth f o es,σ,H=>(ev o σ H).vb λx H1=>guard (jd (P.cls f) x H1) ((eJ es σ H1).vb λvs H2=>C f (x::vs) H2)
 |.new c es,σ,H=>(eJ es σ H).vb λvs H1=>eS P C c vs H1
 |.b1 op a,σ,H=>(ev a σ H).vb λx H1=>bG op x H1
 |.ba0,_,H=>.ok (.obj H.length) (H++[.ba []])
 |.rng es,σ,H=>(eJ es σ H).vb λvs H1=>bW vs H1
 |.joinS a,σ,H=>(ev a σ H).vb λx H1=>x.onL (λxs=>bo (joinS xs) λl=>guard (decide (l.length<=aq)) (.ok (.str l) H1)) .bad
 |.joinB a,σ,H=>(ev a σ H).vb λx H1=>x.onL (λxs=>bo (joinB xs) λl=>guard (decide (l.length<=aq)) (.ok (.byt l) H1)) .bad
 |.app o a,σ,H=>(ev o σ H).vb λx H1=>guard (tI x H1) ((ev a σ H1).vb λy H2=>cj x y H2)
 |.ext o a,σ,H=>(ev o σ H).vb λx H1=>guard (yA x H1) ((ev a σ H1).vb λy H2=>eD x y H2)
 |.comp own elt t it,σ,H=>(ev it σ H).vb λx H1=>match elems x with
  |some xs=>(aE (λv H=>match bN t v σ with
    |some σ'=>(ev elt σ' H).vb λr H'=>.ok (some r) H'
    |none=>.bad) xs H1).vb λvs H2=>mk own vs H2
  |none=>.bad
 |.compIf own elt t it c,σ,H=>(ev it σ H).vb λx H1=>match elems x with
  |some xs=>(aE (λv H=>match bN t v σ with
    |some σ'=>(ck c σ' H).vb λb H'=>match b with
     |true=>(ev elt σ' H').vb λr H''=>.ok (some r) H''
     |false=>.ok none H'
    |none=>.bad) xs H1).vb λvs H2=>mk own vs H2
  |none=>.bad
 |.bad,_,_=>.bad
noncomputable def ck:E->ai->Hp->Out Bool
 |.not a,σ,H=>(ck a σ H).vb λb H1=>.ok (!b) H1
 |.and a b,σ,H=>(ck a σ H).vb λx H1=>match x with
  |true=>(ck b σ H1).vb λy H2=>.ok y H2
  |false=>.ok false H1
 |.or a b,σ,H=>(ck a σ H).vb λx H1=>match x with
  |true=>.ok true H1
  |false=>(ck b σ H1).vb λy H2=>.ok y H2
 |.or3 a b c,σ,H=>(ck a σ H).vb λx H1=>match x with
  |true=>.ok true H1
  |false=>(ck b σ H1).vb λy H2=>match y with
   |true=>.ok true H2
   |false=>(ck c σ H2).vb λz H3=>.ok z H3
 |.cmp op a b,σ,H=>(ev a σ H).vb λx H1=>(ev b σ H1).vb λy H2=>asB (aw op x y H2)
 |.cmp2 o1 o2 a b c,σ,H=>(ev a σ H).vb λx H1=>(ev b σ H1).vb λy H2=>(asB (aw o1 x y H2)).vb λr H3=>match r with
  |true=>(ev c σ H3).vb λz H4=>asB (aw o2 y z H4)
  |false=>.ok false H3
 |.call f es,σ,H=>asB ((eJ es σ H).vb λvs H1=>C f vs H1)
 |_,_,_=>.bad
noncomputable def eJ:Es->ai->Hp->Out (List V)
 |.nil,_,H=>.ok [] H
 |.cons e es,σ,H=>(ev e σ H).vb λv H1=>(eJ es σ H1).vb λvs H2=>.ok (v::vs) H2
end
mutual
noncomputable def ex:S->ai->Hp->Out (Fl × ai)
 |.asg i e,σ,H=>(ev P C e σ H).vb λv H1=>.ok (.next,ao σ i v) H1
 |.asg2 i j e,σ,H=>(ev P C e σ H).vb λv H1=>v.onT (λxs=>pS xs (λa b=>.ok (.next,ao (ao σ i a) j b) H1) .bad) .bad
 |.asgD2 i j a b,σ,H=>(ev P C a σ H).vb λx H1=>(ev P C b σ H1).vb λy H2=>.ok (.next,ao (ao σ i x) j y) H2
 |.asgD3 i j k a b c,σ,H=>(ev P C a σ H).vb λx H1=>(ev P C b σ H1).vb λy H2=>(ev P C c σ H2).vb λz H3=>.ok (.next,ao (ao (ao σ i x) j y) k z) H3
 |.asgA o k e,σ,H=>(ev P C e σ H).vb λv H1=>(ev P C o σ H1).vb λx H2=>(jH x k v H2).vb λ_ H3=>.ok (.next,σ) H3
 |.asgS o i e,σ,H=>(ev P C e σ H).vb λv H1=>(ev P C o σ H1).vb λx H2=>(ev P C i σ H2).vb λy H3=>(dU x y v H3).vb λ_ H4=>.ok (.next,σ) H4
 |.xpr e,σ,H=>(ev P C e σ H).sb λ_ H1=>.ok (.next,σ) H1
 |.ret e,σ,H=>(ev P C e σ H).sb λv H1=>.ok (.ret v,σ) H1
 |.ite t a b,σ,H=>(ck P C t σ H).vb λr H1=>match r with
  |true=>bA a σ H1
  |false=>bA b σ H1
 |.for t it body,σ,H=>(ev P C it σ H).vb λx H1=>match elems x with
  |some xs=>bU (λv σ H=>match bN t v σ with
    |some σ'=>bA body σ' H
    |none=>.bad) xs σ H1
  |none=>.bad
 |.whl t body,σ,H=>n8 (ck P C t) (bA body) 64 σ H
 |.rse e,σ,H=>(ev P C e σ H).vb λv H1=>v.onS (λ_=>.exc H1) .bad
 |.tryx body hb,σ,H=>match bA body σ H with
  |.ok r H1=>.ok r H1
  |.exc H1=>bA hb σ H1
  |.bad=>.bad
 |.bad,_,_=>.bad
noncomputable def bA:Ss->ai->Hp->Out (Fl × ai)
 |.nil,σ,H=>.ok (.next,σ) H
 |.cons s ss,σ,H=>(ex s σ H).sb λr H1=>match r.1 with
  |.next=>bA ss r.2 H1
  |.ret v=>.ok (.ret v,r.2) H1
end
end
structure Fn where
 arity:Nat
 slots:Nat
 keep:Bool
 body:Ss
noncomputable def dW(n:Nat):ai:=n.rec [] λ_ g=>none::g
noncomputable def Fl.plain(r:Fl):Bool:=r.casesOn true λv=>!v.isObj
noncomputable def Fl.val(r:Fl):V:=r.casesOn .none λv=>v
noncomputable def dH(keep:Bool)(n:Nat)(x:Out (Fl × ai)):Out V:=match x with
 |.ok r H=>guard r.1.plain (match keep with
  |true=>.ok r.1.val H
  |false=>guard (a8 n (H.take n)) (.ok r.1.val (H.take n)))
 |.exc H=>guard (a8 n (H.take n)) (.exc (H.take n))
 |.bad=>.bad
noncomputable def run(P:jc)(F:Nat->Fn)(n:Nat):Nat->List V->Hp->Out V:=
 n.rec (λ_ _ _=>.bad) λ_ g f vs H=>guard (decide (vs.length=(F f).arity))
   (dH (F f).keep H.length (bA P g (F f).body (vs.map some++dW ((F f).slots - (F f).arity)) H))
noncomputable def b0:Ss:=(.cons (.ite (.or (.cmp .lt (.var 1) (.cint 0)) (.cmp .gt (.bin .add (.var 1) (.var 2)) (.b1 .len (.var 0)))) (.cons .bad .nil) .nil) .nil)
noncomputable def b1:Ss:=(.cons (.xpr (.call 0 (.cons (.var 0) (.cons (.var 1) (.cons (.var 2) .nil))))) (.cons (.asg 3 (.cint 0)) (.cons (.for (.one 4) (.sl (.var 0) (.var 1) (.bin .add (.var 1) (.var 2))) (.cons (.asg 3 (.bin .bor (.bin .shl (.var 3) (.cint 8)) (.var 4))) .nil)) (.cons (.ret (.var 3)) .nil))))
noncomputable def b2:Ss:=(.cons (.ret (.call 1 (.cons (.var 0) (.cons (.var 1) (.cons (.cint 4) .nil))))) .nil)
noncomputable def b3:Ss:=(.cons (.asgA (.var 0) 0 (.var 1)) (.cons (.asgA (.var 0) 1 (.var 2)) .nil))
noncomputable def b4:Ss:=(.cons (.xpr (.call 0 (.cons (.attr (.var 0) 0) (.cons (.attr (.var 0) 1) (.cons (.var 1) .nil))))) .nil)
noncomputable def b5:Ss:=(.cons (.asg 2 (.call 1 (.cons (.attr (.var 0) 0) (.cons (.attr (.var 0) 1) (.cons (.var 1) .nil))))) (.cons (.asgA (.var 0) 1 (.bin .add (.attr (.var 0) 1) (.var 1))) (.cons (.ret (.var 2)) .nil)))
noncomputable def b6:Ss:=(.cons (.ret (.meth 5 (.var 0) (.cons (.cint 2) .nil))) .nil)
noncomputable def b7:Ss:=(.cons (.ret (.meth 5 (.var 0) (.cons (.cint 4) .nil))) .nil)
noncomputable def b8:Ss:=(.cons (.xpr (.meth 4 (.var 0) (.cons (.cint 4) .nil))) (.cons (.asg 1 (.sl (.attr (.var 0) 0) (.attr (.var 0) 1) (.bin .add (.attr (.var 0) 1) (.cint 4)))) (.cons (.asgA (.var 0) 1 (.bin .add (.attr (.var 0) 1) (.cint 4))) (.cons (.ret (.joinS (.comp false (.b1 .chr (.var 2)) (.one 2) (.var 1)))) .nil))))
noncomputable def b9:Ss:=(.cons (.ite (.or (.cmp .lt (.var 0) (.cint 0)) (.cmp .gt (.bin .shr (.var 0) (.bin .mul (.cint 8) (.var 1))) (.cint 0))) (.cons .bad .nil) .nil) (.cons (.ret (.b1 .bytes (.comp false (.bin .band (.bin .shr (.var 0) (.bin .mul (.cint 8) (.var 2))) (.cint 255)) (.one 2) (.rng (.cons (.bin .sub (.var 1) (.cint 1)) (.cons (.neg (.cint 1)) (.cons (.neg (.cint 1)) .nil))))))) .nil))
noncomputable def G2:Ss:=(.cons (.asgA (.var 0) 2 .ba0) .nil)
noncomputable def J6:Ss:=(.cons (.xpr (.ext (.attr (.var 0) 2) (.call 9 (.cons (.var 1) (.cons (.cint 2) .nil))))) .nil)
noncomputable def J7:Ss:=(.cons (.xpr (.ext (.attr (.var 0) 2) (.call 9 (.cons (.var 1) (.cons (.cint 4) .nil))))) .nil)
noncomputable def J8:Ss:=(.cons (.ite (.or (.cmp .ne (.b1 .len (.var 1)) (.cint 4)) (.cmp .ne (.compIf false (.var 2) (.one 2) (.var 1) (.cmp .gt (.b1 .ord (.var 2)) (.cint 255))) (.lst false .nil))) (.cons .bad .nil) .nil) (.cons (.xpr (.ext (.attr (.var 0) 2) (.b1 .bytes (.comp false (.b1 .ord (.var 2)) (.one 2) (.var 1))))) .nil))
noncomputable def J9:Ss:=(.cons (.xpr (.ext (.attr (.var 0) 2) (.joinB (.comp false (.call 9 (.cons (.var 2) (.cons (.cint 2) .nil))) (.one 2) (.var 1))))) .nil)
noncomputable def Ka:Ss:=(.cons (.xpr (.ext (.attr (.var 0) 2) (.var 1))) .nil)
noncomputable def Kb:Ss:=(.cons (.ret (.b1 .bytes (.attr (.var 0) 2))) .nil)
noncomputable def Je:Ss:=(.cons (.asg 2 (.bin .add (.var 2) (.call 1 (.cons (.var 1) (.cons (.var 3) (.cons (.cint 4) .nil)))))) .nil)
noncomputable def Kc:Ss:=(.cons (.asg 1 (.bin .add (.var 0) (.b1 .bytes (.bin .mod (.neg (.b1 .len (.var 0))) (.cint 4))))) (.cons (.asg 2 (.cint 0)) (.cons (.for (.one 3) (.rng (.cons (.cint 0) (.cons (.b1 .len (.var 1)) (.cons (.cint 4) .nil)))) Je) (.cons (.ret (.bin .band (.var 2) (.cint 4294967295))) .nil))))
noncomputable def G3:Ss:=(.cons (.asgA (.var 0) 3 (.var 1)) (.cons (.asgA (.var 0) 4 (.var 2)) (.cons (.asgA (.var 0) 5 (.var 3)) (.cons (.asgA (.var 0) 6 (.var 4)) (.cons (.asgA (.var 0) 7 (.var 5)) .nil)))))
noncomputable def Kd:Ss:=(.cons (.ret (.bin .add (.attr (.var 0) 5) (.attr (.var 0) 6))) .nil)
noncomputable def Ke:Ss:=(.cons (.ret (.bin .add (.gv 2) (.bin .mul (.gv 3) (.var 0)))) .nil)
noncomputable def G4:Ss:=(.cons (.asg 2 (.new 0 (.cons (.var 0) (.cons (.var 1) .nil)))) (.cons (.asg 3 (.meth 8 (.var 2) .nil)) (.cons (.asg 4 (.meth 7 (.var 2) .nil)) (.cons (.asg 5 (.meth 7 (.var 2) .nil)) (.cons (.ret (.new 2 (.cons (.var 3) (.cons (.var 4) (.cons (.var 5) (.cons (.meth 7 (.var 2) .nil) (.cons (.var 1) .nil))))))) .nil)))))
noncomputable def BL:Ss:=(.cons (.asg 3 (.sub (.var 0) (.var 2))) (.cons (.ite (.and (.cmp .gt (.var 2) (.cint 0)) (.cmp .ge (.attr (.sub (.var 0) (.bin .sub (.var 2) (.cint 1))) 3) (.attr (.var 3) 3))) (.cons .bad .nil) .nil) (.cons (.ite (.cmp .gt (.meth 19 (.var 3) .nil) (.var 1)) (.cons .bad .nil) .nil) .nil)))
noncomputable def Kf:Ss:=(.cons (.for (.one 2) (.rng (.cons (.b1 .len (.var 0)) .nil)) BL) .nil)
noncomputable def G5:Ss:=(.cons (.ite (.cmp .lt (.sub (.sub (.var 3) (.var 5)) (.cint 0)) (.sub (.sub (.var 3) (.bin .sub (.var 5) (.cint 1))) (.cint 1))) (.cons .bad .nil) .nil) .nil)
noncomputable def Jf:E:=.compIf true (.tup (.cons (.attr (.var 4) 5) (.cons (.meth 19 (.var 4) .nil) (.cons (.attr (.var 4) 7) .nil)))) (.one 4) (.var 0) (.cmp .gt (.attr (.var 4) 6) (.cint 0))
noncomputable def Kg:Ss:=(.cons (.asg 3 (Jf)) (.cons (.xpr (.app (.var 3) (.tup (.cons (.var 1) (.cons (.var 2) (.cons (.var 1) .nil)))))) (.cons (.asg 3 (.b1 .sorted (.frz 3))) (.cons (.for (.one 5) (.rng (.cons (.cint 1) (.cons (.b1 .len (.var 3)) .nil))) G5) .nil))))
noncomputable def Kh:Ss:=(.cons (.ite (.cmp .lt (.b1 .len (.var 0)) (.bin .add (.var 1) (.gv 2))) (.cons .bad .nil) .nil) (.cons (.asg 2 (.call 2 (.cons (.var 0) (.cons (.var 1) .nil)))) (.cons (.ite (.cmp .notin (.var 2) (.gv 0)) (.cons .bad .nil) .nil) (.cons (.asg 3 (.meth 6 (.new 0 (.cons (.var 0) (.cons (.bin .add (.var 1) (.cint 4)) .nil))) .nil)) (.cons (.asg 4 (.bin .add (.var 1) (.call 20 (.cons (.var 3) .nil)))) (.cons (.ite (.cmp .lt (.b1 .len (.var 0)) (.var 4)) (.cons .bad .nil) .nil) (.cons (.asg 5 (.comp false (.call 21 (.cons (.var 0) (.cons (.var 6) .nil))) (.one 6) (.rng (.cons (.bin .add (.var 1) (.gv 2)) (.cons (.var 4) (.cons (.gv 3) .nil)))))) (.cons (.xpr (.call 22 (.cons (.var 5) (.cons (.b1 .len (.var 0)) .nil)))) (.cons (.xpr (.call 23 (.cons (.var 5) (.cons (.var 1) (.cons (.var 4) .nil))))) (.cons (.ret (.tup (.cons (.var 2) (.cons (.var 5) .nil)))) .nil))))))))))
noncomputable def Ki:Ss:=(.cons (.ret (.b1 .dict (.comp false (.tup (.cons (.attr (.var 2) 3) (.cons (.sl (.var 0) (.attr (.var 2) 5) (.meth 19 (.var 2) .nil)) .nil))) (.one 2) (.var 1)))) .nil)
noncomputable def Kj:Ss:=(.cons (.asg2 1 2 (.call 24 (.cons (.var 0) (.cons (.cint 0) .nil)))) (.cons (.ret (.tup (.cons (.var 1) (.cons (.call 25 (.cons (.var 0) (.cons (.var 2) .nil))) .nil)))) .nil))
noncomputable def Kk:Ss:=(.cons (.ret (.and (.cmp .ge (.b1 .len (.var 0)) (.gv 2)) (.cmp .eq (.call 2 (.cons (.var 0) (.cons (.cint 0) .nil))) (.gv 1)))) .nil)
noncomputable def G6:Ss:=(.cons (.asg2 5 6 (.call 24 (.cons (.var 0) (.cons (.meth 7 (.var 1) .nil) .nil)))) (.cons (.xpr (.app (.var 3) (.tup (.cons (.var 5) (.cons (.call 25 (.cons (.var 0) (.cons (.var 6) .nil))) .nil))))) .nil))
noncomputable def Kl:Ss:=(.cons (.ite (.not (.call 27 (.cons (.var 0) .nil))) (.cons .bad .nil) .nil) (.cons (.asg 1 (.new 0 (.cons (.var 0) (.cons (.cint 4) .nil)))) (.cons (.ite (.cmp .notin (.meth 7 (.var 1) .nil) (.tup (.cons (.cint 65536) (.cons (.cint 131072) .nil)))) (.cons .bad .nil) .nil) (.cons (.asg 2 (.meth 7 (.var 1) .nil)) (.cons (.ite (.or (.not (.cmp2 .lt .le (.cint 0) (.var 2) (.gv 5))) (.cmp .lt (.b1 .len (.var 0)) (.bin .add (.gv 2) (.bin .mul (.cint 4) (.var 2))))) (.cons .bad .nil) .nil) (.cons (.asg 3 (.lst true .nil)) (.cons (.for (.one 4) (.rng (.cons (.var 2) .nil)) G6) (.cons (.ret (.frz 3)) .nil))))))))
noncomputable def Km:Ss:=(.cons (.ret (.and (.cmp .eq (.var 0) (.cstr [104,101,97,100])) (.cmp .ge (.b1 .len (.var 1)) (.bin .add (.gv 4) (.cint 4))))) .nil)
noncomputable def Kn:Ss:=(.cons (.ite (.not (.call 29 (.cons (.var 0) (.cons (.var 1) .nil)))) (.cons (.ret (.var 1)) .nil) .nil) (.cons .bad .nil))
noncomputable def Ko:Ss:=(.cons (.ret (.call 17 (.cons (.call 30 (.cons (.var 0) (.cons (.var 1) .nil))) .nil))) .nil)
noncomputable def Kp:Ss:=(.cons (.ite (.cmp .eq (.var 0) (.cint 0)) (.cons (.ret (.tup (.cons (.cint 0) (.cons (.cint 0) (.cons (.cint 0) .nil))))) .nil) .nil) (.cons (.asgD2 1 2 (.cint 1) (.cint 0)) (.cons (.whl (.cmp .le (.bin .mul (.cint 2) (.var 1)) (.var 0)) (.cons (.asg 1 (.bin .mul (.cint 2) (.var 1))) (.cons (.asg 2 (.bin .add (.var 2) (.cint 1))) .nil))) (.cons (.ret (.tup (.cons (.bin .mul (.gv 3) (.var 1)) (.cons (.var 2) (.cons (.bin .mul (.gv 3) (.bin .sub (.var 0) (.var 1))) .nil))))) .nil))))
noncomputable def Kq:Ss:=(.cons (.ret (.bin .add (.var 0) (.b1 .bytes (.bin .mod (.neg (.b1 .len (.var 0))) (.cint 4))))) .nil)
noncomputable def D3:Ss:=(.cons (.ite (.or3 (.cmp .ne (.b1 .len (.var 2)) (.cint 4)) (.cmp .lt (.b1 .min (.var 2)) (.cstr [32])) (.cmp .gt (.b1 .max (.var 2)) (.cstr [126]))) (.cons (.rse (.bin .add (.cstr [110,111,32,116,97,103,58,32]) (.var 2))) .nil) .nil) .nil)
noncomputable def Kr:Ss:=(.cons (.ite (.cmp .notin (.var 0) (.gv 0)) (.cons (.rse (.cstr [97,110,32,117,110,107,110,111,119,110,32,118,101,114,115,105,111,110])) .nil) .nil) (.cons (.ite (.not (.cmp2 .lt .le (.cint 0) (.b1 .len (.var 1)) (.gv 6))) (.cons (.rse (.cstr [97,32,102,111,110,116,32,119,105,116,104,111,117,116,32,116,97,98,108,101,115,44,32,111,114,32,119,105,116,104,32,116,111,111,32,109,97,110,121])) .nil) .nil) (.cons (.for (.one 2) (.var 1) D3) .nil)))
noncomputable def Gd:Ss:=(.cons (.xpr (.meth 13 (.var 2) (.cons (.attr (.var 3) 3) .nil))) (.cons (.xpr (.meth 12 (.var 2) (.cons (.attr (.var 3) 4) .nil))) (.cons (.xpr (.meth 12 (.var 2) (.cons (.attr (.var 3) 5) .nil))) (.cons (.xpr (.meth 12 (.var 2) (.cons (.attr (.var 3) 6) .nil))) .nil))))
noncomputable def G7:Ss:=(.cons (.asg 2 (.new 1 .nil)) (.cons (.xpr (.meth 12 (.var 2) (.cons (.var 0) .nil))) (.cons (.xpr (.meth 11 (.var 2) (.cons (.b1 .len (.var 1)) .nil))) (.cons (.xpr (.meth 14 (.var 2) (.cons (.call 32 (.cons (.b1 .len (.var 1)) .nil)) .nil))) (.cons (.for (.one 3) (.var 1) Gd) (.cons (.ret (.meth 16 (.var 2) .nil)) .nil))))))
noncomputable def G8:Ss:=(.cons (.asg 7 (.call 30 (.cons (.var 6) (.cons (.sub (.var 1) (.var 6)) .nil)))) (.cons (.ite (.call 29 (.cons (.var 6) (.cons (.var 7) .nil))) (.cons (.asg 4 (.bin .add (.var 5) (.gv 4))) .nil) .nil) (.cons (.xpr (.app (.var 2) (.new 2 (.cons (.var 6) (.cons (.call 17 (.cons (.var 7) .nil)) (.cons (.var 5) (.cons (.b1 .len (.var 7)) (.cons (.cint 0) .nil)))))))) (.cons (.xpr (.app (.var 3) (.call 33 (.cons (.var 7) .nil)))) (.cons (.asg 5 (.bin .add (.var 5) (.b1 .len (.sub (.var 3) (.neg (.cint 1)))))) .nil)))))
noncomputable def Ks:Ss:=(.cons (.xpr (.call 34 (.cons (.var 0) (.cons (.var 1) .nil)))) (.cons (.asgD3 2 3 4 (.lst true .nil) (.lst true .nil) .cnone) (.cons (.asg 5 (.call 20 (.cons (.b1 .len (.var 1)) .nil))) (.cons (.for (.one 6) (.b1 .sorted (.var 1)) G8) (.cons (.asg 8 (.bin .add (.call 35 (.cons (.var 0) (.cons (.frz 2) .nil))) (.joinB (.frz 3)))) (.cons (.ret (.ife (.cmp .is (.var 4) .cnone) (.var 8) .bad)) .nil))))))
noncomputable def Jg:E:=(.compIf false (.var 11) (.one 11) (.rng (.cons (.b1 .len (.var 2)) .nil)) (.and (.cmp .eq (.sub (.var 2) (.var 11)) (.sub (.var 6) (.var 9))) (.cmp .notin (.var 11) (.var 8))))
noncomputable def Jh:Ss:=(.cons (.xpr (.app (.var 8) (.sub (.var 10) (.cint 0)))) (.cons (.asgS (.var 7) (.var 9) (.sub (.var 3) (.sub (.var 10) (.cint 0)))) .nil))
noncomputable def G9:Ss:=(.cons (.asg 10 Jg) (.cons (.ite (.cmp .eq (.var 10) (.lst false .nil)) (.cons (.asg 10 (.lst false (.cons (.b1 .len (.var 2)) .nil))) (.cons (.xpr (.app (.var 2) (.sub (.var 6) (.var 9)))) (.cons (.xpr (.app (.var 3) (.var 1))) (.cons (.asg 1 (.bin .add (.var 1) (.b1 .len (.call 33 (.cons (.sub (.var 6) (.var 9)) .nil))))) .nil)))) .nil) Jh))
noncomputable def Ha:Ss:=(.cons (.asgD2 7 8 .dct0 (.lst true .nil)) (.cons (.for (.one 9) (.b1 .sorted (.var 6)) G9) (.cons (.xpr (.app (.var 4) (.frz 7))) .nil)))
noncomputable def Kt:Ss:=(.cons (.asgD3 2 3 4 (.lst true .nil) (.lst true .nil) (.lst true .nil)) (.cons (.for (.two 5 6) (.var 0) Ha) (.cons (.ret (.tup (.cons (.joinB (.comp false (.call 33 (.cons (.var 12) .nil)) (.one 12) (.frz 2))) (.cons (.frz 4) .nil)))) .nil)))
noncomputable def D4:Ss:=(.cons (.xpr (.call 34 (.cons (.var 3) (.cons (.var 4) .nil)))) (.cons (.xpr (.meth 12 (.var 1) (.cons (.var 2) .nil))) (.cons (.asg 2 (.bin .add (.var 2) (.call 20 (.cons (.b1 .len (.var 4)) .nil)))) .nil)))
noncomputable def Hb:E:=(.new 2 (.cons (.var 9) (.cons (.call 31 (.cons (.var 9) (.cons (.sub (.var 4) (.var 9)) .nil))) (.cons (.sub (.sub (.var 6) (.var 7)) (.var 9)) (.cons (.b1 .len (.sub (.var 4) (.var 9))) (.cons (.cint 0) .nil))))))
noncomputable def Ge:Ss:=(.cons (.asg2 3 4 (.sub (.var 0) (.var 7))) (.cons (.asg 8 (.comp false Hb (.one 9) (.b1 .sorted (.var 4)))) (.cons (.xpr (.meth 15 (.var 1) (.cons (.call 35 (.cons (.var 3) (.cons (.var 8) .nil))) .nil))) .nil)))
noncomputable def Hd:Ss:=(.cons (.asg2 5 6 (.call 37 (.cons (.var 0) (.cons (.var 2) .nil)))) (.cons (.for (.one 7) (.rng (.cons (.b1 .len (.var 0)) .nil)) Ge) (.cons (.xpr (.meth 15 (.var 1) (.cons (.var 5) .nil))) (.cons (.ret (.meth 16 (.var 1) .nil)) .nil))))
noncomputable def Ji:Ss:=(.cons (.ite (.not (.cmp2 .lt .le (.cint 0) (.b1 .len (.var 0)) (.gv 5))) (.cons (.rse (.cstr [97,32,99,111,108,108,101,99,116,105,111,110,32,111,102,32,116,111,111,32,109,97,110,121,32,102,111,110,116,115,44,32,111,114,32,111,102,32,110,111,110,101])) .nil) .nil) (.cons (.asg 1 (.new 1 .nil)) (.cons (.xpr (.meth 12 (.var 1) (.cons (.gv 1) .nil))) (.cons (.xpr (.meth 12 (.var 1) (.cons (.cint 65536) .nil))) (.cons (.xpr (.meth 12 (.var 1) (.cons (.b1 .len (.var 0)) .nil))) (.cons (.asg 2 (.bin .add (.gv 2) (.bin .mul (.cint 4) (.b1 .len (.var 0))))) (.cons (.for (.two 3 4) (.var 0) D4) Hd)))))))
noncomputable def Ku:Ss:=(.cons (.asg 2 (.sub (.var 0) (.cint 1))) (.cons (.asgS (.var 0) (.cint 1) (.bin .add (.var 2) (.cint 1))) (.cons (.ite (.cmp .lt (.var 2) (.b1 .len (.sub (.var 0) (.cint 0)))) (.cons (.ret (.bin .mod (.sub (.sub (.var 0) (.cint 0)) (.var 2)) (.var 1))) .nil) .nil) (.cons (.asg 3 (.ife (.cmp .ne (.sub (.var 0) (.cint 0)) (.lst false .nil)) (.bin .fdiv (.sub (.sub (.var 0) (.cint 0)) (.bin .mod (.var 2) (.b1 .len (.sub (.var 0) (.cint 0))))) (.bin .pow (.cint 300) (.bin .fdiv (.var 2) (.b1 .len (.sub (.var 0) (.cint 0)))))) (.cint 0))) (.cons (.ret (.bin .mod (.bin .add (.bin .add (.var 3) (.var 2)) (.bin .fdiv (.bin .mul (.var 2) (.var 2)) (.cint 3))) (.var 1))) .nil)))))
noncomputable def Gf:Ss:=(.cons (.asgS (.var 4) (.sub (.gv 7) (.call 39 (.cons (.var 0) (.cons (.cint 4) .nil)))) (.sub (.var 1) (.call 39 (.cons (.var 0) (.cons (.cint 3) .nil))))) .nil)
noncomputable def Jj:Ss:=(.cons (.ite (.cmp .eq (.var 2) (.cint 1)) (.cons (.asg 3 (.sub (.tup (.cons (.cint 65537) (.cons (.cint 0) (.cons (.cint 1953784678) .nil)))) (.call 39 (.cons (.var 0) (.cons (.cint 3) .nil))))) .nil) .nil) (.cons (.ite (.cmp .eq (.var 2) (.cint 2)) (.cons (.asg 4 .dct0) .nil) .nil) (.cons (.ite (.cmp .gt (.var 2) (.cint 2)) (.cons (.asgS (.var 4) (.sub (.tup (.cons (.cstr [104,101,97]) (.cons (.cstr [104,101,97,100,115]) (.cons (.cstr [104,101,31,100]) (.cons (.cstr [104,101,127,100]) .nil))))) (.bin .sub (.var 2) (.cint 3))) (.sub (.var 1) (.cint 0))) .nil) .nil) (.cons (.ret (.tup (.cons (.var 3) (.cons (.frz 4) .nil)))) .nil))))
noncomputable def Kv:Ss:=(.cons (.asg 2 (.sub (.tup (.cons (.cint 0) (.cons (.cint 0) (.cons (.cint 1) (.cons (.cint 0) (.cons (.cint 0) (.cons (.cint 2) (.cons (.cint 0) (.cons (.cint 0) (.cons (.cint 6) (.cons (.cint 0) (.cons (.cint 4) (.cons (.cint 0) (.cons (.cint 5) (.cons (.cint 3) .nil))))))))))))))) (.call 39 (.cons (.var 0) (.cons (.cint 14) .nil))))) (.cons (.asg 3 (.sub (.tup (.cons (.cint 65536) (.cons (.cint 1330926671) (.cons (.cint 1953658213) .nil)))) (.call 39 (.cons (.var 0) (.cons (.cint 3) .nil))))) (.cons (.asg 4 .dct0) (.cons (.for (.one 5) (.rng (.cons (.bin .add (.cint 1) (.call 39 (.cons (.var 0) (.cons (.cint 3) .nil)))) .nil)) Gf) Jj))))
noncomputable def Kw:Ss:=(.cons (.tryx (.cons (.ret (.call 36 (.cons (.sub (.var 0) (.cint 0)) (.cons (.sub (.var 0) (.cint 1)) .nil)))) .nil) (.cons (.ret .cnone) .nil)) .nil)
noncomputable def Kx:Ss:=(.cons (.tryx (.cons (.ret (.call 38 (.cons (.var 0) .nil))) .nil) (.cons (.ret .cnone) .nil)) .nil)
noncomputable def He:E:=(.b1 .bytes (.comp false (.call 39 (.cons (.var 1) (.cons (.cint 256) .nil))) (.one 6) (.rng (.cons (.sub (.tup (.cons (.cint 0) (.cons (.cint 3) (.cons (.cint 4) (.cons (.cint 1) (.cons (.cint 6) .nil)))))) (.call 39 (.cons (.var 1) (.cons (.cint 5) .nil)))) .nil))))
noncomputable def Hf:E:=(.bin .add (.bin .mul (.cint 2) (.b1 .abs (.b1 .int (.var 2)))) (.b1 .int (.cmp .lt (.var 2) (.cint 0))))
noncomputable def Jk:Ss:=(.cons (.ite (.or (.cmp .ne (.call 28 (.cons (.var 13) .nil)) (.comp false (.call 26 (.cons (.var 14) .nil)) (.one 14) (.var 11))) (.cmp .ne (.call 28 (.cons (.var 13) .nil)) (.var 7))) (.cons (.ret (.cbool false)) .nil) .nil) (.cons (.asg 15 (.call 42 (.cons (.bin .add (.var 7) (.lst false (.cons (.sub (.var 7) (.cint 0)) .nil))) .nil))) (.cons (.ret (.and (.cmp .eq (.b1 .len (.var 15)) (.bin .add (.bin .add (.b1 .len (.var 13)) (.cint 16)) (.bin .mul (.cint 16) (.b1 .len (.sub (.sub (.var 7) (.cint 0)) (.cint 1)))))) (.cmp .eq (.call 28 (.cons (.var 15) .nil)) (.bin .add (.var 7) (.lst false (.cons (.sub (.var 7) (.cint 0)) .nil)))))) .nil)))
noncomputable def Hg:Ss:=(.cons (.ite (.or (.cmp .ne (.var 7) (.var 8)) (.cmp .ne (.cmp .is (.var 13) .cnone) (.or (.cmp .isin .cnone (.var 11)) (.cmp .eq (.var 7) (.lst false .nil))))) (.cons (.ret (.cbool false)) .nil) .nil) (.cons (.ite (.cmp .is (.var 13) .cnone) (.cons (.ret (.cbool true)) .nil) .nil) Jk))
noncomputable def Ky:Ss:=(.cons (.asg 1 (.lst true (.cons (.comp false Hf (.one 2) (.slTo (.var 0) (.cint 40))) (.cons (.cint 0) .nil)))) (.cons (.asg 3 (.sub (.tup (.cons (.cint 2) (.cons (.cint 1) (.cons (.cint 3) (.cons (.cint 0) (.cons (.cint 3) .nil)))))) (.call 39 (.cons (.var 1) (.cons (.cint 5) .nil))))) (.cons (.asg 4 (.comp false He (.one 5) (.rng (.cons (.cint 3) .nil)))) (.cons (.asg 7 (.comp false (.call 40 (.cons (.var 1) (.cons (.var 4) .nil))) (.one 5) (.rng (.cons (.var 3) .nil)))) (.cons (.asg 8 (.comp false (.tup (.cons (.var 9) (.cons (.b1 .dict (.var 10)) .nil))) (.two 9 10) (.var 7))) (.cons (.asg 11 (.comp false (.call 41 (.cons (.var 12) .nil)) (.one 12) (.var 7))) (.cons (.asg 13 (.call 42 (.cons (.var 7) .nil))) Hg)))))))
noncomputable def Bc:Nat->V
 |0=>.tup [.int 65536,.int 1330926671,.int 1953658213]
 |1=>.int 1953784678
 |2=>.int 12
 |3=>.int 16
 |4=>.int 8
 |5=>.int 64
 |6=>.int 4095
 |7=>.tup [.str [79,83,47,50],.str [99,109,97,112],.str [103,108,121,102],.str [109,97,120,112]]
 |_=>.none
noncomputable def yC:Nat->Nat
 |0=>3
 |1=>10
 |_=>18
noncomputable def Hh:Nat->Bool
 |2=>true
 |_=>false
noncomputable def bv:Nat->Nat
 |3=>0
 |4=>0
 |5=>0
 |6=>0
 |7=>0
 |8=>0
 |10=>1
 |11=>1
 |12=>1
 |13=>1
 |14=>1
 |15=>1
 |16=>1
 |18=>2
 |19=>2
 |_=>99
noncomputable def prog:jc:=⟨Bc,yC,Hh,bv⟩
noncomputable def bH:Nat->Fn
 |0=>⟨3,3,false,b0⟩
 |1=>⟨3,5,false,b1⟩
 |2=>⟨2,2,false,b2⟩
 |3=>⟨3,3,false,b3⟩
 |4=>⟨2,2,false,b4⟩
 |5=>⟨2,3,false,b5⟩
 |6=>⟨1,1,false,b6⟩
 |7=>⟨1,1,false,b7⟩
 |8=>⟨1,3,false,b8⟩
 |9=>⟨2,3,false,b9⟩
 |10=>⟨1,1,true,G2⟩
 |11=>⟨2,2,false,J6⟩
 |12=>⟨2,2,false,J7⟩
 |13=>⟨2,3,false,J8⟩
 |14=>⟨2,3,false,J9⟩
 |15=>⟨2,2,false,Ka⟩
 |16=>⟨1,1,false,Kb⟩
 |17=>⟨1,4,false,Kc⟩
 |18=>⟨6,6,false,G3⟩
 |19=>⟨1,1,false,Kd⟩
 |20=>⟨1,1,false,Ke⟩
 |21=>⟨2,6,false,G4⟩
 |22=>⟨2,4,false,Kf⟩
 |23=>⟨3,6,false,Kg⟩
 |24=>⟨2,7,false,Kh⟩
 |25=>⟨2,3,false,Ki⟩
 |26=>⟨1,3,false,Kj⟩
 |27=>⟨1,1,false,Kk⟩
 |28=>⟨1,7,false,Kl⟩
 |29=>⟨2,2,false,Km⟩
 |30=>⟨2,2,false,Kn⟩
 |31=>⟨2,2,false,Ko⟩
 |32=>⟨1,3,false,Kp⟩
 |33=>⟨1,1,false,Kq⟩
 |34=>⟨2,3,false,Kr⟩
 |35=>⟨2,4,false,G7⟩
 |36=>⟨2,9,false,Ks⟩
 |37=>⟨2,13,false,Kt⟩
 |38=>⟨1,10,false,Ji⟩
 |39=>⟨2,4,false,Ku⟩
 |40=>⟨2,6,false,Kv⟩
 |41=>⟨1,1,false,Kw⟩
 |42=>⟨1,1,false,Kx⟩
 |43=>⟨1,16,false,Ky⟩
 |_=>⟨0,0,false,.cons .bad .nil⟩
noncomputable def slotNames:Nat->List String
 |0=>["data", "at", "count"]
 |1=>["data", "at", "count", "total", "code"]
 |2=>["data", "at"]
 |3=>["self", "data", "at"]
 |4=>["self", "count"]
 |5=>["self", "count", "found"]
 |6=>["self"]
 |7=>["self"]
 |8=>["self", "codes", "code"]
 |9=>["number", "count", "place"]
 |10=>["self"]
 |11=>["self", "number"]
 |12=>["self", "number"]
 |13=>["self", "text", "sign"]
 |14=>["self", "numbers", "number"]
 |15=>["self", "octets"]
 |16=>["self"]
 |17=>["octets", "filled", "total", "at"]
 |18=>["self", "tag", "total", "begin", "length", "where"]
 |19=>["self"]
 |20=>["count"]
 |21=>["data", "where", "reader", "tag", "total", "begin"]
 |22=>["records", "size", "at", "one"]
 |23=>["records", "begun", "behind", "line", "one", "at"]
 |24=>["data", "begun", "version", "count", "behind", "records", "where"]
 |25=>["data", "records", "one"]
 |26=>["data", "version", "records"]
 |27=>["data"]
 |28=>["data", "reader", "count", "found", "spot", "version", "records"]
 |29=>["tag", "octets"]
 |30=>["tag", "octets"]
 |31=>["tag", "octets"]
 |32=>["count", "power", "steps"]
 |33=>["octets"]
 |34=>["version", "tables", "tag"]
 |35=>["version", "records", "out", "one"]
 |36=>["version", "tables", "records", "parts", "spot", "begin", "tag", "body", "data"]
 |37=>["fonts", "begin", "parts", "spots", "places", "version", "tables", "found", "taken", "tag", "free", "at", "one"]
 |38=>["fonts", "out", "where", "version", "tables", "body", "places", "at", "rows", "tag"]
 |39=>["pen", "many", "at", "told"]
 |40=>["pen", "pool", "fault", "version", "tables", "turn"]
 |41=>["font"]
 |42=>["fonts"]
 |43=>["script", "pen", "cell", "count", "pool", "turn", "spot", "fonts", "copies", "version", "tables", "alone", "font", "found", "one", "more"]
 |_=>[]
theorem cN{T:Type}{i:Nonempty T}{p:T->Prop}(h:p (Classical.epsilon λt=>¬p t))(t:T):p t:=Classical.byContradiction λw=>Classical.epsilon_spec (p:=λt=>¬p t) ⟨t,w⟩ h
noncomputable def ep{T:Type}(p:T->Prop)(i:Nonempty T:=by repeat' first|exact default|constructor|intro _):T:=Classical.epsilon λt=>¬p t
abbrev V2{a b:Type}(p:a->b->Prop)(t:a × b):Prop:=p t.1 t.2
abbrev V3{a b c:Type}(p:a->b->c->Prop)(t:a × b × c):Prop:=V2 (p t.1) t.2
abbrev V4{a b c d:Type}(p:a->b->c->d->Prop)(t:a × b × c × d):Prop:=V3 (p t.1) t.2
abbrev V5{a b c d e:Type}(p:a->b->c->d->e->Prop)(t:a × b × c × d × e):Prop:=V4 (p t.1) t.2
abbrev V6{a b c d e f:Type}(p:a->b->c->d->e->f->Prop)(t:a × b × c × d × e × f):Prop:=V5 (p t.1) t.2
abbrev V7{a b c d e f g:Type}(p:a->b->c->d->e->f->g->Prop)(t:a × b × c × d × e × f × g):Prop:=V6 (p t.1) t.2
abbrev V8{a b c d e f g h:Type}(p:a->b->c->d->e->f->g->h->Prop)(t:a × b × c × d × e × f × g × h):Prop:=V7 (p t.1) t.2
abbrev V9{a b c d e f g h i:Type}(p:a->b->c->d->e->f->g->h->i->Prop)(t:a × b × c × d × e × f × g × h × i):Prop:=V8 (p t.1) t.2
abbrev uX{A0 A1 A2 A3 A4 A5 A6 A7 A8 A9:Type}(p:A0->A1->A2->A3->A4->A5->A6->A7->A8->A9->Prop)(t:A0 × A1 × A2 × A3 × A4 × A5 × A6 × A7 × A8 × A9):Prop:=V9 (p t.1) t.2
abbrev BM{A0 A1 A2 A3 A4 A5 A6 A7 A8 A9 A10:Type}(p:A0->A1->A2->A3->A4->A5->A6->A7->A8->A9->A10->Prop)(t:A0 × A1 × A2 × A3 × A4 × A5 × A6 × A7 × A8 × A9 × A10):Prop:=uX (p t.1) t.2
abbrev BN{A0 A1 A2 A3 A4 A5 A6 A7 A8 A9 A10 A11:Type}(p:A0->A1->A2->A3->A4->A5->A6->A7->A8->A9->A10->A11->Prop)(t:A0 × A1 × A2 × A3 × A4 × A5 × A6 × A7 × A8 × A9 × A10 × A11):Prop:=BM (p t.1) t.2
abbrev Kz{A0 A1 A2 A3 A4 A5 A6 A7 A8 A9 A10 A11 A12:Type}(p:A0->A1->A2->A3->A4->A5->A6->A7->A8->A9->A10->A11->A12->Prop)(t:A0 × A1 × A2 × A3 × A4 × A5 × A6 × A7 × A8 × A9 × A10 × A11 × A12):Prop:=BN (p t.1) t.2
abbrev D5{A0 A1 A2 A3 A4 A5 A6 A7 A8 A9 A10 A11 A12 A13:Type}(p:A0->A1->A2->A3->A4->A5->A6->A7->A8->A9->A10->A11->A12->A13->Prop)(t:A0 × A1 × A2 × A3 × A4 × A5 × A6 × A7 × A8 × A9 × A10 × A11 × A12 × A13):Prop:=Kz (p t.1) t.2
abbrev uY{A0 A1 A2 A3 A4 A5 A6 A7 A8 A9 A10 A11 A12 A13 A14:Type}(p:A0->A1->A2->A3->A4->A5->A6->A7->A8->A9->A10->A11->A12->A13->A14->Prop)(t:A0 × A1 × A2 × A3 × A4 × A5 × A6 × A7 × A8 × A9 × A10 × A11 × A12 × A13 × A14):Prop:=D5 (p t.1) t.2
abbrev BO{A0 A1 A2 A3 A4 A5 A6 A7 A8 A9 A10 A11 A12 A13 A14 A15:Type}(p:A0->A1->A2->A3->A4->A5->A6->A7->A8->A9->A10->A11->A12->A13->A14->A15->Prop)(t:A0 × A1 × A2 × A3 × A4 × A5 × A6 × A7 × A8 × A9 × A10 × A11 × A12 × A13 × A14 × A15):Prop:=uY (p t.1) t.2
abbrev KA{A0 A1 A2 A3 A4 A5 A6 A7 A8 A9 A10 A11 A12 A13 A14 A15 A16:Type}(p:A0->A1->A2->A3->A4->A5->A6->A7->A8->A9->A10->A11->A12->A13->A14->A15->A16->Prop)(t:A0 × A1 × A2 × A3 × A4 × A5 × A6 × A7 × A8 × A9 × A10 × A11 × A12 × A13 × A14 × A15 × A16):Prop:=BO (p t.1) t.2
abbrev Hi{A0 A1 A2 A3 A4 A5 A6 A7 A8 A9 A10 A11 A12 A13 A14 A15 A16 A17:Type}(p:A0->A1->A2->A3->A4->A5->A6->A7->A8->A9->A10->A11->A12->A13->A14->A15->A16->A17->Prop)(t:A0 × A1 × A2 × A3 × A4 × A5 × A6 × A7 × A8 × A9 × A10 × A11 × A12 × A13 × A14 × A15 × A16 × A17):Prop:=KA (p t.1) t.2
abbrev BP{A0 A1 A2 A3 A4 A5 A6 A7 A8 A9 A10 A11 A12 A13 A14 A15 A16 A17 A18:Type}(p:A0->A1->A2->A3->A4->A5->A6->A7->A8->A9->A10->A11->A12->A13->A14->A15->A16->A17->A18->Prop)(t:A0 × A1 × A2 × A3 × A4 × A5 × A6 × A7 × A8 × A9 × A10 × A11 × A12 × A13 × A14 × A15 × A16 × A17 × A18):Prop:=Hi (p t.1) t.2
abbrev KB{A0 A1 A2 A3 A4 A5 A6 A7 A8 A9 A10 A11 A12 A13 A14 A15 A16 A17 A18 A19:Type}(p:A0->A1->A2->A3->A4->A5->A6->A7->A8->A9->A10->A11->A12->A13->A14->A15->A16->A17->A18->A19->Prop)(t:A0 × A1 × A2 × A3 × A4 × A5 × A6 × A7 × A8 × A9 × A10 × A11 × A12 × A13 × A14 × A15 × A16 × A17 × A18 × A19):Prop:=BP (p t.1) t.2
abbrev D6{A0 A1 A2 A3 A4 A5 A6 A7 A8 A9 A10 A11 A12 A13 A14 A15 A16 A17 A18 A19 A20:Type}(p:A0->A1->A2->A3->A4->A5->A6->A7->A8->A9->A10->A11->A12->A13->A14->A15->A16->A17->A18->A19->A20->Prop)(t:A0 × A1 × A2 × A3 × A4 × A5 × A6 × A7 × A8 × A9 × A10 × A11 × A12 × A13 × A14 × A15 × A16 × A17 × A18 × A19 × A20):Prop:=KB (p t.1) t.2
abbrev KC{A0 A1 A2 A3 A4 A5 A6 A7 A8 A9 A10 A11 A12 A13 A14 A15 A16 A17 A18 A19 A20 A21:Type}(p:A0->A1->A2->A3->A4->A5->A6->A7->A8->A9->A10->A11->A12->A13->A14->A15->A16->A17->A18->A19->A20->A21->Prop)(t:A0 × A1 × A2 × A3 × A4 × A5 × A6 × A7 × A8 × A9 × A10 × A11 × A12 × A13 × A14 × A15 × A16 × A17 × A18 × A19 × A20 × A21):Prop:=D6 (p t.1) t.2
abbrev KD{A0 A1 A2 A3 A4 A5 A6 A7 A8 A9 A10 A11 A12 A13 A14 A15 A16 A17 A18 A19 A20 A21 A22:Type}(p:A0->A1->A2->A3->A4->A5->A6->A7->A8->A9->A10->A11->A12->A13->A14->A15->A16->A17->A18->A19->A20->A21->A22->Prop)(t:A0 × A1 × A2 × A3 × A4 × A5 × A6 × A7 × A8 × A9 × A10 × A11 × A12 × A13 × A14 × A15 × A16 × A17 × A18 × A19 × A20 × A21 × A22):Prop:=KC (p t.1) t.2
abbrev KF{A0 A1 A2 A3 A4 A5 A6 A7 A8 A9 A10 A11 A12 A13 A14 A15 A16 A17 A18 A19 A20 A21 A22 A23:Type}(p:A0->A1->A2->A3->A4->A5->A6->A7->A8->A9->A10->A11->A12->A13->A14->A15->A16->A17->A18->A19->A20->A21->A22->A23->Prop)(t:A0 × A1 × A2 × A3 × A4 × A5 × A6 × A7 × A8 × A9 × A10 × A11 × A12 × A13 × A14 × A15 × A16 × A17 × A18 × A19 × A20 × A21 × A22 × A23):Prop:=KD (p t.1) t.2
abbrev KG{A0 A1 A2 A3 A4 A5 A6 A7 A8 A9 A10 A11 A12 A13 A14 A15 A16 A17 A18 A19 A20 A21 A22 A23 A24:Type}(p:A0->A1->A2->A3->A4->A5->A6->A7->A8->A9->A10->A11->A12->A13->A14->A15->A16->A17->A18->A19->A20->A21->A22->A23->A24->Prop)(t:A0 × A1 × A2 × A3 × A4 × A5 × A6 × A7 × A8 × A9 × A10 × A11 × A12 × A13 × A14 × A15 × A16 × A17 × A18 × A19 × A20 × A21 × A22 × A23 × A24):Prop:=KF (p t.1) t.2
abbrev Hj{A0 A1 A2 A3 A4 A5 A6 A7 A8 A9 A10 A11 A12 A13 A14 A15 A16 A17 A18 A19 A20 A21 A22 A23 A24 A25:Type}(p:A0->A1->A2->A3->A4->A5->A6->A7->A8->A9->A10->A11->A12->A13->A14->A15->A16->A17->A18->A19->A20->A21->A22->A23->A24->A25->Prop)(t:A0 × A1 × A2 × A3 × A4 × A5 × A6 × A7 × A8 × A9 × A10 × A11 × A12 × A13 × A14 × A15 × A16 × A17 × A18 × A19 × A20 × A21 × A22 × A23 × A24 × A25):Prop:=KG (p t.1) t.2
abbrev KH{A0 A1 A2 A3 A4 A5 A6 A7 A8 A9 A10 A11 A12 A13 A14 A15 A16 A17 A18 A19 A20 A21 A22 A23 A24 A25 A26:Type}(p:A0->A1->A2->A3->A4->A5->A6->A7->A8->A9->A10->A11->A12->A13->A14->A15->A16->A17->A18->A19->A20->A21->A22->A23->A24->A25->A26->Prop)(t:A0 × A1 × A2 × A3 × A4 × A5 × A6 × A7 × A8 × A9 × A10 × A11 × A12 × A13 × A14 × A15 × A16 × A17 × A18 × A19 × A20 × A21 × A22 × A23 × A24 × A25 × A26):Prop:=Hj (p t.1) t.2
abbrev KJ{A0 A1 A2 A3 A4 A5 A6 A7 A8 A9 A10 A11 A12 A13 A14 A15 A16 A17 A18 A19 A20 A21 A22 A23 A24 A25 A26 A27:Type}(p:A0->A1->A2->A3->A4->A5->A6->A7->A8->A9->A10->A11->A12->A13->A14->A15->A16->A17->A18->A19->A20->A21->A22->A23->A24->A25->A26->A27->Prop)(t:A0 × A1 × A2 × A3 × A4 × A5 × A6 × A7 × A8 × A9 × A10 × A11 × A12 × A13 × A14 × A15 × A16 × A17 × A18 × A19 × A20 × A21 × A22 × A23 × A24 × A25 × A26 × A27):Prop:=KH (p t.1) t.2
abbrev Hk{A0 A1 A2 A3 A4 A5 A6 A7 A8 A9 A10 A11 A12 A13 A14 A15 A16 A17 A18 A19 A20 A21 A22 A23 A24 A25 A26 A27 A28:Type}(p:A0->A1->A2->A3->A4->A5->A6->A7->A8->A9->A10->A11->A12->A13->A14->A15->A16->A17->A18->A19->A20->A21->A22->A23->A24->A25->A26->A27->A28->Prop)(t:A0 × A1 × A2 × A3 × A4 × A5 × A6 × A7 × A8 × A9 × A10 × A11 × A12 × A13 × A14 × A15 × A16 × A17 × A18 × A19 × A20 × A21 × A22 × A23 × A24 × A25 × A26 × A27 × A28):Prop:=KJ (p t.1) t.2
abbrev KL{A0 A1 A2 A3 A4 A5 A6 A7 A8 A9 A10 A11 A12 A13 A14 A15 A16 A17 A18 A19 A20 A21 A22 A23 A24 A25 A26 A27 A28 A29:Type}(p:A0->A1->A2->A3->A4->A5->A6->A7->A8->A9->A10->A11->A12->A13->A14->A15->A16->A17->A18->A19->A20->A21->A22->A23->A24->A25->A26->A27->A28->A29->Prop)(t:A0 × A1 × A2 × A3 × A4 × A5 × A6 × A7 × A8 × A9 × A10 × A11 × A12 × A13 × A14 × A15 × A16 × A17 × A18 × A19 × A20 × A21 × A22 × A23 × A24 × A25 × A26 × A27 × A28 × A29):Prop:=Hk (p t.1) t.2
abbrev KM{A0 A1 A2 A3 A4 A5 A6 A7 A8 A9 A10 A11 A12 A13 A14 A15 A16 A17 A18 A19 A20 A21 A22 A23 A24 A25 A26 A27 A28 A29 A30:Type}(p:A0->A1->A2->A3->A4->A5->A6->A7->A8->A9->A10->A11->A12->A13->A14->A15->A16->A17->A18->A19->A20->A21->A22->A23->A24->A25->A26->A27->A28->A29->A30->Prop)(t:A0 × A1 × A2 × A3 × A4 × A5 × A6 × A7 × A8 × A9 × A10 × A11 × A12 × A13 × A14 × A15 × A16 × A17 × A18 × A19 × A20 × A21 × A22 × A23 × A24 × A25 × A26 × A27 × A28 × A29 × A30):Prop:=KL (p t.1) t.2
abbrev KN{A0 A1 A2 A3 A4 A5 A6 A7 A8 A9 A10 A11 A12 A13 A14 A15 A16 A17 A18 A19 A20 A21 A22 A23 A24 A25 A26 A27 A28 A29 A30 A31:Type}(p:A0->A1->A2->A3->A4->A5->A6->A7->A8->A9->A10->A11->A12->A13->A14->A15->A16->A17->A18->A19->A20->A21->A22->A23->A24->A25->A26->A27->A28->A29->A30->A31->Prop)(t:A0 × A1 × A2 × A3 × A4 × A5 × A6 × A7 × A8 × A9 × A10 × A11 × A12 × A13 × A14 × A15 × A16 × A17 × A18 × A19 × A20 × A21 × A22 × A23 × A24 × A25 × A26 × A27 × A28 × A29 × A30 × A31):Prop:=KM (p t.1) t.2
abbrev Jl{A0 A1 A2 A3 A4 A5 A6 A7 A8 A9 A10 A11 A12 A13 A14 A15 A16 A17 A18 A19 A20 A21 A22 A23 A24 A25 A26 A27 A28 A29 A30 A31 A32:Type}(p:A0->A1->A2->A3->A4->A5->A6->A7->A8->A9->A10->A11->A12->A13->A14->A15->A16->A17->A18->A19->A20->A21->A22->A23->A24->A25->A26->A27->A28->A29->A30->A31->A32->Prop)(t:A0 × A1 × A2 × A3 × A4 × A5 × A6 × A7 × A8 × A9 × A10 × A11 × A12 × A13 × A14 × A15 × A16 × A17 × A18 × A19 × A20 × A21 × A22 × A23 × A24 × A25 × A26 × A27 × A28 × A29 × A30 × A31 × A32):Prop:=KN (p t.1) t.2
section
variable{α:Type}{v:V}{d:α}{P:V->α->Prop}
@[elab_as_elim] theorem kI{f:Int->α}(h0:P v d)(h1:∀i,P (.int i) (f i)):P v (v.onI f d):=
 V.casesOn (motive_1:=λv=>P v d->P v (v.onI f d)) v id (λ_=>id) (λi _=>h1 i) (λ_=>id) (λ_=>id) (λ_=>id) (λ_=>id) (λ_=>id) (λ_ _=>id) (λ_ _ _=>id) (λ_=>id) h0
@[elab_as_elim] theorem kB{f:Bool->α}(h0:P v d)(h1:∀i,P (.bool i) (f i)):P v (v.onB f d):=
 V.casesOn (motive_1:=λv=>P v d->P v (v.onB f d)) v id (λi _=>h1 i) (λ_=>id) (λ_=>id) (λ_=>id) (λ_=>id) (λ_=>id) (λ_=>id) (λ_ _=>id) (λ_ _ _=>id) (λ_=>id) h0
@[elab_as_elim] theorem kS{f:List Nat->α}(h0:P v d)(h1:∀i,P (.str i) (f i)):P v (v.onS f d):=
 V.casesOn (motive_1:=λv=>P v d->P v (v.onS f d)) v id (λ_=>id) (λ_=>id) (λi _=>h1 i) (λ_=>id) (λ_=>id) (λ_=>id) (λ_=>id) (λ_ _=>id) (λ_ _ _=>id) (λ_=>id) h0
@[elab_as_elim] theorem kY{f:List UInt8->α}(h0:P v d)(h1:∀i,P (.byt i) (f i)):P v (v.onY f d):=
 V.casesOn (motive_1:=λv=>P v d->P v (v.onY f d)) v id (λ_=>id) (λ_=>id) (λ_=>id) (λi _=>h1 i) (λ_=>id) (λ_=>id) (λ_=>id) (λ_ _=>id) (λ_ _ _=>id) (λ_=>id) h0
@[elab_as_elim] theorem kT{f:List V->α}(h0:P v d)(h1:∀i,P (.tup i) (f i)):P v (v.onT f d):=
 V.casesOn (motive_1:=λv=>P v d->P v (v.onT f d)) v id (λ_=>id) (λ_=>id) (λ_=>id) (λ_=>id) (λi _=>h1 i) (λ_=>id) (λ_=>id) (λ_ _=>id) (λ_ _ _=>id) (λ_=>id) h0
@[elab_as_elim] theorem kL{f:List V->α}(h0:P v d)(h1:∀i,P (.lst i) (f i)):P v (v.onL f d):=
 V.casesOn (motive_1:=λv=>P v d->P v (v.onL f d)) v id (λ_=>id) (λ_=>id) (λ_=>id) (λ_=>id) (λ_=>id) (λi _=>h1 i) (λ_=>id) (λ_ _=>id) (λ_ _ _=>id) (λ_=>id) h0
@[elab_as_elim] theorem kD{f:List (List Nat × V)->α}(h0:P v d)(h1:∀i,P (.dct i) (f i)):P v (v.onD f d):=
 V.casesOn (motive_1:=λv=>P v d->P v (v.onD f d)) v id (λ_=>id) (λ_=>id) (λ_=>id) (λ_=>id) (λ_=>id) (λ_=>id) (λi _=>h1 i) (λ_ _=>id) (λ_ _ _=>id) (λ_=>id) h0
@[elab_as_elim] theorem kO{f:Nat->α}(h0:P v d)(h1:∀i,P (.obj i) (f i)):P v (v.onO f d):=
 V.casesOn (motive_1:=λv=>P v d->P v (v.onO f d)) v id (λ_=>id) (λ_=>id) (λ_=>id) (λ_=>id) (λ_=>id) (λ_=>id) (λ_=>id) (λ_ _=>id) (λ_ _ _=>id) (λi _=>h1 i) h0
@[elab_as_elim] theorem kR{f:Nat->List (Nat × V)->α}(h0:P v d)(h1:∀k l,P (.rcd k l) (f k l)):P v (v.onR f d):=
 V.casesOn (motive_1:=λv=>P v d->P v (v.onR f d)) v id (λ_=>id) (λ_=>id) (λ_=>id) (λ_=>id) (λ_=>id) (λ_=>id) (λ_=>id) (λk l _=>h1 k l) (λ_ _ _=>id) (λ_=>id) h0
@[elab_as_elim] theorem kN{c:α}(h0:P v d)(h1:P .none c):P v (v.onN c d):=
 V.casesOn (motive_1:=λv=>P v d->P v (v.onN c d)) v (λ_=>h1) (λ_=>id) (λ_=>id) (λ_=>id) (λ_=>id) (λ_=>id) (λ_=>id) (λ_=>id) (λ_ _=>id) (λ_ _ _=>id) (λ_=>id) h0
end
section
variable{α:Type}{o:O}{d:α}
@[elab_as_elim] theorem D7{f:List V->α}{P:O->α->Prop}(h0:P o d)(h1:∀l,P (.lst l) (f l)):P o (o.onL f d):=
 O.casesOn (motive:=λo=>P o d->P o (o.onL f d)) o (λl _=>h1 l) (λ_=>id) (λ_=>id) (λ_ _=>id) id h0
@[elab_as_elim] theorem Jm{f:List (List Nat × V)->α}{P:O->α->Prop}(h0:P o d)(h1:∀l,P (.dct l) (f l)):P o (o.onD f d):=
 O.casesOn (motive:=λo=>P o d->P o (o.onD f d)) o (λ_=>id) (λl _=>h1 l) (λ_=>id) (λ_ _=>id) id h0
@[elab_as_elim] theorem Hl{f:List UInt8->α}{P:O->α->Prop}(h0:P o d)(h1:∀l,P (.ba l) (f l)):P o (o.onB f d):=
 O.casesOn (motive:=λo=>P o d->P o (o.onB f d)) o (λ_=>id) (λ_=>id) (λl _=>h1 l) (λ_ _=>id) id h0
@[elab_as_elim] theorem D8{f:Nat->List (Nat × V)->α}{P:O->α->Prop}(h0:P o d)(h1:∀c l,P (.ins c l) (f c l)):P o (o.onI f d):=
 O.casesOn (motive:=λo=>P o d->P o (o.onI f d)) o (λ_=>id) (λ_=>id) (λ_=>id) (λc l _=>h1 c l) id h0
end
theorem eK{a b:Bool}{P:Prop}(h:(a&&b)=true)(k:a=true->b=true->P):P:=k (LD.mp h).1 (LD.mp h).2
theorem gF{a b c:Bool}{P:Prop}(h:(a&&b&&c)=true)(k:a=true->b=true->c=true->P):P:=eK h λh x=>eK h λy z=>k y z x
theorem tJ{a b c d:Bool}{P:Prop}(h:(a&&b&&c&&d)=true)(k:a=true->b=true->c=true->d=true->P):P:=eK h λh x=>gF h λa b c=>k a b c x
theorem rP{a b c d e:Bool}{P:Prop}(h:(a&&b&&c&&d&&e)=true)(k:a=true->b=true->c=true->d=true->e=true->P):P:=eK h λh x=>tJ h λa b c d=>k a b c d x
theorem BQ{a b c d e f:Bool}{P:Prop}(h:(a&&b&&c&&d&&e&&f)=true)(k:a=true->b=true->c=true->d=true->e=true->f=true->P):P:=eK h λh x=>rP h λa b c d e=>k a b c d e x
theorem ff{P:Prop}(h:false=true):P:=(L8 h).elim
theorem n9{α:Type}[LT α][DecidableLT α][DecidableEq α](ir:∀a:α,¬a<a)(tri:∀a b:α,¬a<b->¬b<a->a=b){a b:α}{r s:List α}{x:Bool}(ih:x=decide (r<s)) :
  (if a<b then true else if b<a then false else x)=decide (a::r<b::s):=
 (LY (a<b)).elim (λh=>(if_pos h).trans (decide_eq_true (List.cons_lt_cons_iff.mpr (.inl h))).symm) λh=>(if_neg h).trans ((LY (b<a)).elim
  (λh2=>(if_pos h2).trans (decide_eq_false λw=>(List.cons_lt_cons_iff.mp w).elim h λw=>ir b (w.1▸h2)).symm) λh2=>(if_neg h2).trans (ih.trans (decide_eq_decide.mpr
   ⟨λw=>List.cons_lt_cons_iff.mpr (.inr ⟨tri a b h h2,w⟩),λw=>(List.cons_lt_cons_iff.mp w).elim (absurd · h) (·.2)⟩)))
theorem eT(a:List Nat):∀b:List Nat,iA a b=decide (a<b):=by
 induction a with
 |nil=>intro b;cases b<;>rfl
 |cons x r ih=>
  intro b
  cases b with
  |nil=>rfl
  |cons y s=>exact n9 Mg (λa b h k=>Nat.le_antisymm (Nat.not_lt.mp k) (Nat.not_lt.mp h)) (ih s)
section
variable{α:Type}{lt:α->α->Bool}
theorem uZ(x y:α)(r:List α){P:List α->Prop}(h:lt x y=true->P (x::y::r))(k:lt x y=false->P (y::lq lt x r)):P (lq lt x (y::r)):=by
 show P (if lt x y then x::y::r else y::lq lt x r)
 cases e:lt x y with
 |true=>exact h e
 |false=>exact k e
theorem lI(x:α)(l:List α):(lq lt x l).Perm (x::l):=by
 induction l with
 |nil=>exact .refl _
 |cons y r ih=>exact uZ x y r (P:=λl=>l.Perm (x::y::r)) (λ_=>.refl _) λ_=>(ih.cons y).trans (.swap x y r)
theorem eU(xs:List α):∀acc:List α,(iX lt xs acc).Perm (xs++acc):=by
 induction xs with
 |nil=>exact λacc=>.refl _
 |cons x r ih=>exact λacc=>((ih _).trans ((lI x acc).append_left r)).trans List.perm_middle
theorem og(as:∀a b,lt a b=true->lt b a=false)(tr:∀a b c,lt b a=false->lt c b=false->lt c a=false)(x:α)(l:List α):l.Pairwise (λa b=>lt b a=false)->(lq lt x l).Pairwise (λa b=>lt b a=false):=by
 induction l with
 |nil=>exact λ_=>List.pairwise_singleton _ _
 |cons y r ih=>
  intro h;have p:=Mq.mp h;exact uZ x y r (P:=λl=>l.Pairwise _) (λhx=>.cons (λb hb=>(LI.mp hb).elim (λw=>w▸as _ _ hx) λhb=>tr _ _ _ (as _ _ hx) (p.1 b hb)) h)
   λhx=>.cons (λb hb=>(LI.mp ((lI x r).mem_iff.mp hb)).elim (λw=>w▸hx) (p.1 b)) (ih p.2)
theorem gq(as:∀a b,lt a b=true->lt b a=false)(tr:∀a b c,lt b a=false->lt c b=false->lt c a=false)(xs:List α):∀acc:List α,acc.Pairwise (λa b=>lt b a=false)->(iX lt xs acc).Pairwise (λa b=>lt b a=false):=by
 induction xs with
 |nil=>exact λacc h=>h
 |cons x r ih=>exact λacc h=>ih _ (og as tr x acc h)
theorem oh(as:∀a b,lt a b=true->lt b a=false)(tr:∀a b c,lt b a=false->lt c b=false->lt c a=false)(an:∀a b,lt b a=false->lt a b=false->a=b){xs ys:List α}(hp:ys.Perm xs)(hs:ys.Pairwise (λa b=>lt b a=false)):ys=iX lt xs []:=
 List.Perm.eq_of_pairwise (λa b _ _ h1 h2=>an a b h1 h2) hs (gq as tr xs [] .nil) (hp.trans (by have h:=eU (lt:=lt) xs [];rw[LW]at h;exact h.symm))
theorem u0{β:Type}{lt':β->β->Bool}{f:α->β}(h:∀a b,lt' (f a) (f b)=lt a b)(x:α)(l:List α):lq lt' (f x) (l.map f)=(lq lt x l).map f:=by
 induction l with
 |nil=>rfl
 |cons y r ih=>
  show(if lt' (f x) (f y)then f x::f y::r.map f else f y::lq lt' (f x) (r.map f))=_;rw[h,ih];show _=List.map f (if lt x y then x::y::r else y::lq lt x r);cases lt x y<;>rfl
theorem rQ{β:Type}{lt':β->β->Bool}{f:α->β}(h:∀a b,lt' (f a) (f b)=lt a b)(xs:List α):∀acc:List α,iX lt' (xs.map f) (acc.map f)=(iX lt xs acc).map f:=by
 induction xs with
 |nil=>exact λacc=>rfl
 |cons x r ih=>exact λacc=>(congrArg (iX lt' (r.map f)) (u0 h x acc)).trans (ih _)
end
theorem u4(a b:List Nat)(h:iA a b=true):iA b a=false:=by
 rw[eT]at h ⊢;exact decide_eq_false (MA.mpr (List.le_of_lt (of_decide_eq_true h)))
theorem pW(a b c:List Nat)(h1:iA b a=false)(h2:iA c b=false):iA c a=false:=by
 rw[eT]at h1 h2 ⊢;exact decide_eq_false (MA.mpr (List.le_trans (MA.mp (of_decide_eq_false h1)) (MA.mp (of_decide_eq_false h2))))
theorem oi(a b:List Nat)(h1:iA b a=false)(h2:iA a b=false):a=b:=by
 rw[eT]at h1 h2;exact List.le_antisymm (MA.mp (of_decide_eq_false h1)) (MA.mp (of_decide_eq_false h2))
noncomputable def pY(a b:List Int):Bool:=decide (a<b)
theorem u5(a b:List Int)(h:pY a b=true):pY b a=false:=decide_eq_false (MA.mpr (List.le_of_lt (of_decide_eq_true h)))
theorem u6(a b c:List Int)(h1:pY b a=false)(h2:pY c b=false):pY c a=false:=
 decide_eq_false (MA.mpr (List.le_trans (MA.mp (of_decide_eq_false h1)) (MA.mp (of_decide_eq_false h2))))
theorem u7(a b:List Int)(h1:pY b a=false)(h2:pY a b=false):a=b:=List.le_antisymm (MA.mp (of_decide_eq_false h1)) (MA.mp (of_decide_eq_false h2))
noncomputable def rR(l:List Int):V:=.tup (l.map .int)
theorem u8(a:List Int):∀b:List Int,Jc (a.map .int) (b.map .int)=pY a b:=by
 induction a with
 |nil=>intro b;cases b<;>rfl
 |cons x r ih=>
  intro b
  cases b with
  |nil=>rfl
  |cons y s=>exact n9 Int.lt_irrefl (λa b h k=>Int.le_antisymm (Int.not_lt.mp k) (Int.not_lt.mp h)) (ih s)
theorem rS(a b:List Int):D2 (rR a) (rR b)=pY a b:=u8 a b
theorem Hm{i:Nat}:aV [] i=none:=rfl
theorem Hn{x:Option V}{r:ai}:aV (x::r) 0=x:=rfl
theorem Ho{x:Option V}{r:ai}{n:Nat}:aV (x::r) (n+1)=aV r n:=rfl
theorem Hq{i:Nat}{v:V}:ao [] i v=[]:=rfl
theorem Hr{x:Option V}{r:ai}{v:V}:ao (x::r) 0 v=some v::r:=rfl
theorem Hs{x:Option V}{r:ai}{n:Nat}{v:V}:ao (x::r) (n+1) v=x::ao r n v:=rfl
theorem pZ{i:Nat}:ak [] i=none:=rfl
theorem p6{x:O}{r:Hp}:ak (x::r) 0=some x:=rfl
theorem p7{x:O}{r:Hp}{n:Nat}:ak (x::r) (n+1)=ak r n:=rfl
theorem p8{i:Nat}{v:O}:au [] i v=[]:=rfl
theorem p9{x:O}{r:Hp}{v:O}:au (x::r) 0 v=v::r:=rfl
theorem qa{x:O}{r:Hp}{n:Nat}{v:O}:au (x::r) (n+1) v=x::au r n v:=rfl
theorem BR{t:ai->Hp->Out Bool}{f:ai->Hp->Out (Fl × ai)}{n:Nat}{σ:ai}{H:Hp}:n8 t f (n+1) σ H=(t σ H).vb λb H1=>match b with
  |false=>.ok (.next,σ) H1
  |true=>(f σ H1).vb λr H2=>match r.1 with
   |.next=>n8 t f n r.2 H2
   |.ret v=>.ok (.ret v,r.2) H2:=rfl
theorem yD{acc:List (List Nat × V)}:dq [] acc=some acc:=rfl
theorem tK{x:V}{r:List V}:cR (x::r)=x.onI (λi=>if 0<=i/\i<256 then(cR r).map (UInt8.ofNat i.toNat::·)else none) none:=rfl
theorem cn:dW 0=[]:=rfl
theorem co{n:Nat}:dW (n+1)=none::dW n:=rfl
theorem Jn{n:List Nat}:fy [] n=none:=rfl
theorem Jo{k n:List Nat}{v:V}{r:List (List Nat × V)}:fy ((k,v)::r) n=if k=n then some v else fy r n:=rfl
theorem jI{n:Nat}{v:V}:iB [] n v=[(n,v)]:=rfl
theorem jJ{k n:Nat}{x v:V}{r:List (Nat × V)}:iB ((k,x)::r) n v=if k=n then(k,v)::r else(k,x)::iB r n v:=rfl
theorem BS{n:List Nat}{v:V}:cx [] n v=[(n,v)]:=rfl
theorem BT{k n:List Nat}{x v:V}{r:List (List Nat × V)}:cx ((k,x)::r) n v=if k=n then(k,v)::r else(k,x)::cx r n v:=rfl
theorem qb{f:V->ai->Hp->Out (Fl × ai)}{σ:ai}{H:Hp}:bU f [] σ H = .ok (.next,σ) H:=rfl
theorem mx{f:V->ai->Hp->Out (Fl × ai)}{x:V}{xs:List V}{σ:ai}{H:Hp}:bU f (x::xs) σ H=(f x σ H).sb λr H1=>match r.1 with
  |.next=>bU f xs r.2 H1
  |.ret v=>.ok (.ret v,r.2) H1:=rfl
theorem jj{f:V->Hp->Out (Option V)}{H:Hp}:aE f [] H = .ok [] H:=rfl
theorem gG{f:V->Hp->Out (Option V)}{x:V}{xs:List V}{H:Hp}:aE f (x::xs) H=(f x H).vb λr H1=>(aE f xs H1).vb λrs H2=>match r with
  |some v=>guard (!v.isObj) (.ok (v::rs) H2)
  |none=>.ok rs H2:=rfl
theorem BU{a b:Int}:jb a b 0=[]:=rfl
theorem BV{a b:Int}{n:Nat}:jb a b (n+1) = .int a::jb (a+b) b n:=rfl
theorem rT{α:Type}{x:Out α}:guard true x=x:=rfl
theorem rU{α:Type}{x:Out α}:guard false x = .bad:=rfl
noncomputable abbrev Av:=Addr->Prop
noncomputable abbrev cS(vs:List Value)(n:Nat):Obj:={cls:=.type "tuple", data:=.seq vs.toArray n}
noncomputable abbrev bD(vs:List Value)(n:Nat):Obj:={cls:=.type "list", data:=.seq vs.toArray n}
noncomputable abbrev eL(l:List UInt8):Obj:={cls:=.type "bytearray", data:=.bytearray l.toArray 0}
noncomputable abbrev Ht(lo hi st:Int)(t u v:Tok):Obj:={cls:=.type "range", data:=.fields #[.int lo t,.int hi u,.int st v]}
structure D9 where
 addr:Addr
 name:PySem.Str
 qual:PySem.Str
 params:Arguments
 body:List Stmt
 scope:Scope
 dV:Value
 kV:Value
 doc:Value
 pm:Value
 cdv:Value
 ct:Value
 an:Option Addr
 nm:List PySem.Str
structure Cx where
 p:PySem.Program
 w:World
 B:Heap
 ca:Nat->Addr
 an:Nat->List Nat
 cF:Value
 K:Frag
 fd:Nat->D9
 gn:Nat->PySem.Str
variable(G:Cx)
def KeyIs(P:Params)(k:List Nat)(e:DictEntry):Prop:=(∃t,e.key = .str ⟨k.toArray⟩ t)/\e.hash=PyData.keyHash P ⟨k.toArray⟩
mutual
noncomputable def Rel(X:Av)(h:Heap):V->Value->Prop
 |.none,v=>v = .none
 |.bool b,v=>v = .bool b
 |.int i,v=>∃t,v = .int i t
 |.str l,v=>l.length<=aq/\∃t,v = .str ⟨l.toArray⟩ t
 |.byt l,v=>l.length<=aq/\∃t,v = .bytes l.toArray t
 |.tup xs,v=>xs.length<=aq/\∃a vs n,v = .ref a/\¬X a/\h.get? a=some (cS vs n)/\RelL X h xs vs
 |.lst xs,v=>xs.length<=aq/\∃a vs n,v = .ref a/\¬X a/\h.get? a=some (bD vs n)/\RelL X h xs vs
 |.dct kvs,v=>(kvs.length<=aq/\(kvs.map (·.1)).Nodup)/\∃a es n,v = .ref a/\(a==sysModules)=false/\¬X a/\h.get? a=some (dictOf es n)/\RelD X h kvs es
 |.rcd c fs,v=>(fs.all λp=>gp c p.1)=true/\∃x dx es n,v = .ref x/\¬X x/\¬X dx/\h.get? x=some (instObj (G.ca c) dx)/\h.get? dx=some (dictOf es n)/\RelA X h fs es
 |.rng lo st n,v=>n<=aq/\∃a hi t u w,v = .ref a/\¬X a/\h.get? a=some (Ht lo hi st t u w)/\n=cy lo hi st/\st≠0/\small lo=true/\small hi=true/\small st=true
 |.obj _,_=>False
noncomputable def RelL(X:Av)(h:Heap):List V->List Value->Prop
 |[],vs=>vs=[]
 |x::xs,vs=>∃v r,vs=v::r/\Rel X h x v/\RelL X h xs r
noncomputable def RelD(X:Av)(h:Heap):List (List Nat × V)->List DictEntry->Prop
 |[],es=>es=[]
 |(k,x)::xs,es=>∃e r,es=e::r/\KeyIs G.w.params k e/\k.length<=aq/\Rel X h x e.val/\RelD X h xs r
noncomputable def RelA(X:Av)(h:Heap):List (Nat × V)->List DictEntry->Prop
 |[],es=>es=[]
 |(k,x)::xs,es=>∃e r,es=e::r/\KeyIs G.w.params (G.an k) e/\Rel X h x e.val/\RelA X h xs r
end
structure Ext(M X X':Av)(h h':Heap):Prop where
 keep:∀b o,h.get? b=some o->¬M b->h'.get? b=some o
 there:∀b o,h.get? b=some o->∃o',h'.get? b=some o'
 grow:∀a,X' a->X a\/h.get? a=none
theorem Ext.refl(M X:Av)(h:Heap):Ext M X X h h:=⟨λ_ _ e _=>e,λ_ o e=>⟨o,e⟩,λ_ x=>.inl x⟩
theorem Ext.trans{M M' X X' X'':Av}{h h' h'':Heap}(a:Ext M X X' h h')(b:Ext M' X' X'' h' h'')(hm:∀x,M' x->M x\/h.get? x=none):Ext M X X'' h h'' where
 keep:=λc o e n=>b.keep c o (a.keep c o e n) λm=>(hm c m).elim n λq=>by rw[e]at q;cases q
 there:=λc o e=>let ⟨o',e'⟩:=a.there c o e;b.there c o' e'
 grow:=λc x=>(b.grow c x).elim (a.grow c) λq=>.inr (by
  cases z:h.get? c with
  |none=>rfl
  |some o=>obtain⟨o',e'⟩:=a.there c o z;rw[e']at q;cases q)
structure Ext0(M X X':Av)(h h':Heap):Prop where
 keep:∀b o,h.get? b=some o->¬M b->h'.get? b=some o
 grow:∀a,X' a->X a\/h.get? a=none
theorem Ext.to0{M X X':Av}{h h':Heap}(E:Ext M X X' h h'):Ext0 M X X' h h':=⟨E.keep,E.grow⟩
theorem Ext0.stay{M X X':Av}{h h':Heap}(E:Ext0 M X X' h h'){a:Addr}{o:Obj}(g:h.get? a=some o)(nx:¬X a):¬X' a:=λx=>
 (E.grow a x).elim nx λq=>by
  rw[g]at q;cases q
def uT(X X':Av)(h h':Heap)(x:V):Prop:=∀v,Rel G X h x v->Rel G X' h' x v
theorem RelL.imp{X X':Av}{h h':Heap}{xs:List V}:∀{vs:List Value},(∀x∈xs,uT G X X' h h' x)->RelL G X h xs vs->RelL G X' h' xs vs:=by
 induction xs with
 |nil=>exact λ_ r=>r
 |cons x xs ih=>
  intro vs w r;obtain⟨v,s,e,a,b⟩:=r;exact(show ∃v r,_ from⟨v,s,e,w x (.head _) v a,ih (λx hx=>w x (.tail _ hx)) b⟩)
theorem RelD.imp{X X':Av}{h h':Heap}{xs:List (List Nat × V)}:∀{vs:List DictEntry},(∀p∈xs,uT G X X' h h' p.2)->RelD G X h xs vs->RelD G X' h' xs vs:=by
 induction xs with
 |nil=>exact λ_ r=>r
 |cons x xs ih=>
  intro vs w r;obtain⟨v,s,e,k,kl,a,b⟩:=r;exact(show ∃e r,_ from⟨v,s,e,k,kl,w x (.head _) _ a,ih (λx hx=>w x (.tail _ hx)) b⟩)
theorem RelA.imp{X X':Av}{h h':Heap}{xs:List (Nat × V)}:∀{vs:List DictEntry},(∀p∈xs,uT G X X' h h' p.2)->RelA G X h xs vs->RelA G X' h' xs vs:=by
 induction xs with
 |nil=>exact λ_ r=>r
 |cons x xs ih=>
  intro vs w r;obtain⟨v,s,e,k,a,b⟩:=r;exact(show ∃e r,_ from⟨v,s,e,k,w x (.head _) _ a,ih (λx hx=>w x (.tail _ hx)) b⟩)
theorem all_cons{α:Type}{P:α->Prop}{x:α}{l:List α}(h1:P x)(h2:∀y∈l,P y):∀y∈x::l,P y:=λy hy=>(LI.mp hy).elim (λe=>e▸h1) (h2 y)
theorem Rel.ext0{M X X':Av}{h h':Heap}(E:Ext0 M X X' h h')(hm:∀a,M a->X a){x:V}{v:Value}(r:Rel G X h x v):Rel G X' h' x v:=
 V.rec (motive_1:=uT G X X' h h') (motive_2:=λl=>∀y∈l,uT G X X' h h' y) (motive_3:=λl=>∀p∈l,uT G X X' h h' p.2) (motive_4:=λl=>∀p∈l,uT G X X' h h' p.2) (motive_5:=λp=>uT G X X' h h' p.2) (motive_6:=λp=>uT G X X' h h' p.2)
  (λ_ r=>r) (λ_ _ r=>r) (λ_ _ r=>r) (λ_ _ r=>r) (λ_ _ r=>r)
  (λxs ih _ r=>by
   obtain⟨z,a,vs,n,e,nx,g,l⟩:=r
   exact(show _/\∃a vs n,_ from⟨z,a,vs,n,e,E.stay g nx,E.keep _ _ g λm=>nx (hm a m),RelL.imp G ih l⟩))
  (λxs ih _ r=>by
   obtain⟨z,a,vs,n,e,nx,g,l⟩:=r
   exact(show _/\∃a vs n,_ from⟨z,a,vs,n,e,E.stay g nx,E.keep _ _ g λm=>nx (hm a m),RelL.imp G ih l⟩))
  (λxs ih _ r=>by
   obtain⟨z,a,vs,n,e,ns,nx,g,l⟩:=r
   exact(show _/\∃a es n,_ from⟨z,a,vs,n,e,ns,E.stay g nx,E.keep _ _ g λm=>nx (hm a m),RelD.imp G ih l⟩))
  (λc fs ih _ r=>by
   obtain⟨z,x,dx,es,n,e,nx,nd,g,gd,l⟩:=r
   exact(show _/\∃x dx es n,_ from⟨z,x,dx,es,n,e,E.stay g nx,E.stay gd nd,E.keep _ _ g λm=>nx (hm x m),E.keep _ _ gd λm=>nd (hm dx m),RelA.imp G ih l⟩))
  (λ_ _ _ _ r=>by
   obtain⟨z,a,hi,t,u,w,e,nx,g,l⟩:=r
   exact(show _/\∃a hi t u w,_ from⟨z,a,hi,t,u,w,e,E.stay g nx,E.keep _ _ g λm=>nx (hm a m),l⟩))
  (λ_ _ r=>r.elim) (λ_ w=>(by cases w)) (λ_ _ a b=>all_cons (P:=uT G X X' h h') a b) (λ_ w=>(by cases w)) (λ_ _ a b=>all_cons (P:=λp:List Nat × V=>uT G X X' h h' p.2) a b) (λ_ w=>(by cases w)) (λ_ _ a b=>all_cons (P:=λp:Nat × V=>uT G X X' h h' p.2) a b) (λ_ _ h=>h) (λ_ _ h=>h) x v r
theorem RelL.ext0{M X X':Av}{h h':Heap}(E:Ext0 M X X' h h')(hm:∀a,M a->X a){xs:List V}{vs:List Value}:RelL G X h xs vs->RelL G X' h' xs vs:=RelL.imp G λ_ _ _ r=>Rel.ext0 G E hm r
theorem RelD.ext0{M X X':Av}{h h':Heap}(E:Ext0 M X X' h h')(hm:∀a,M a->X a){xs:List (List Nat × V)}{vs:List DictEntry}:RelD G X h xs vs->RelD G X' h' xs vs:=RelD.imp G λ_ _ _ r=>Rel.ext0 G E hm r
theorem RelA.ext0{M X X':Av}{h h':Heap}(E:Ext0 M X X' h h')(hm:∀a,M a->X a){xs:List (Nat × V)}{vs:List DictEntry}:RelA G X h xs vs->RelA G X' h' xs vs:=RelA.imp G λ_ _ _ r=>Rel.ext0 G E hm r
theorem Rel.ext{M X X':Av}{h h':Heap}(E:Ext M X X' h h')(hm:∀a,M a->X a){x:V}{v:Value}(r:Rel G X h x v):Rel G X' h' x v:=Rel.ext0 G E.to0 hm r
theorem RelL.ext{M X X':Av}{h h':Heap}(E:Ext M X X' h h')(hm:∀a,M a->X a){xs:List V}{vs:List Value}(r:RelL G X h xs vs):RelL G X' h' xs vs:=RelL.ext0 G E.to0 hm r
theorem RelD.ext{M X X':Av}{h h':Heap}(E:Ext M X X' h h')(hm:∀a,M a->X a){xs:List (List Nat × V)}{vs:List DictEntry}(r:RelD G X h xs vs):RelD G X' h' xs vs:=RelD.ext0 G E.to0 hm r
theorem RelA.ext{M X X':Av}{h h':Heap}(E:Ext M X X' h h')(hm:∀a,M a->X a){xs:List (Nat × V)}{vs:List DictEntry}(r:RelA G X h xs vs):RelA G X' h' xs vs:=RelA.ext0 G E.to0 hm r
noncomputable def TRel(ρ:List (Addr × Addr))(X:Av)(h:Heap):V->Value->Prop
 |.obj i,v=>∃q,ρ[i]? = some q/\v = .ref q.1
 |x,v=>Rel G X h x v
noncomputable def aI:O->Addr × Addr->List Addr
 |.dead,_=>[]
 |.ins _ _,q=>[q.1,q.2]
 |_,q=>[q.1]
noncomputable def aj(ρ:List (Addr × Addr))(H:Hp):Av:=λa=>∃i q o,ρ[i]? = some q/\ak H i=some o/\a∈aI o q
noncomputable def Av.or(F W:Av):Av:=λa=>F a\/W a
noncomputable def TRelA(ρ:List (Addr × Addr))(X:Av)(h:Heap):List (Nat × V)->List DictEntry->Prop
 |[],es=>es=[]
 |(k,x)::xs,es=>∃e r,es=e::r/\KeyIs G.w.params (G.an k) e/\TRel G ρ X h x e.val/\TRelA ρ X h xs r
noncomputable def RelO(ρ:List (Addr × Addr))(X:Av)(h:Heap)(q:Addr × Addr):O->Prop
 |.lst xs=>xs.length<=aq/\∃vs n,h.get? q.1=some (bD vs n)/\RelL G X h xs vs
 |.dct kvs=>(kvs.length<=aq/\(kvs.map (·.1)).Nodup)/\∃es n,h.get? q.1=some (dictOf es n)/\RelD G X h kvs es
 |.ba l=>l.length<=aq/\h.get? q.1=some (eL l)
 |.ins c fs=>((fs.all λp=>gp c p.1)=true/\fs.length<=50)/\h.get? q.1=some (instObj (G.ca c) q.2)/\∃es n,h.get? q.2=some (dictOf es n)/\TRelA G ρ X h fs es
 |.dead=>True
structure SR(F:Av)(ρ:List (Addr × Addr))(H:Hp)(h:Heap):Prop where
 len:ρ.length=H.length
 rel:∀i q o,ρ[i]? = some q->ak H i=some o->RelO G ρ (Av.or F (aj ρ H)) h q o
 apart:∀i j q r o o' a,ρ[i]? = some q->ak H i=some o->ρ[j]? = some r->ak H j=some o'->a∈aI o q->a∈aI o' r->i=j
 disj:∀a,aj ρ H a->¬F a
 base:∀b o,G.B.get? b=some o->h.get? b=some o
 above:∀a,F a\/aj ρ H a->G.B.get? a=none
theorem ay:∀(H:Hp)(i:Nat),ak H i=H[i]?
 |[],i=>by simp[pZ,p6,p7]
 |x::r,0=>by simp[pZ,p6,p7]
 |x::r,i+1=>by simp[pZ,p6,p7,ay r i]
theorem my:∀(H:Hp)(i:Nat)(o:O),au H i o=H.set i o
 |[],i,o=>by simp[p8,p9,qa]
 |x::r,0,o=>by simp[p8,p9,qa]
 |x::r,i+1,o=>by simp[p8,p9,qa,my r i o]
noncomputable def al:Av:=λ_=>False
structure Same(s s':Shared):Prop where
 eq:∃h' tk,s' = {s with heap:=h',toks:=tk}
theorem Same.refl(s:Shared):Same s s:=⟨s.heap,s.toks,rfl⟩
theorem Same.trans{s s' s'':Shared}(a:Same s s')(b:Same s' s''):Same s s'':=by
 obtain⟨h,t,rfl⟩:=a.eq;obtain⟨h',t',rfl⟩:=b.eq;exact⟨h',t',rfl⟩
def UpS(h:Heap)(b:Addr)(o:Obj):Prop:=∃sl,h.get? b=some {o with slots:=sl}/\((∀es ep,o.data≠.dict es ep)->sl=o.slots)
theorem UpS.of{h:Heap}{b:Addr}{o:Obj}(e:h.get? b=some o):UpS h b o:=⟨o.slots,e,λ_=>rfl⟩
theorem UpS.step{h:Heap}{b:Addr}{o:Obj}{sl:Array (Option Value)}(e:(∀es ep,o.data≠.dict es ep)->sl=o.slots)(x:UpS h b {o with slots:=sl}):UpS h b o:=by
 obtain⟨sl',e1,e2⟩:=x;exact⟨sl',e1,λf=>(e2 f).trans (e f)⟩
structure Aft(F M:Av)(ρ:List (Addr × Addr))(H:Hp)(s:Shared)(ρ':List (Addr × Addr))(H':Hp)(s':Shared):Prop where
 same:Same s s'
 pre:ρ<+:ρ'
 sr:SR G F ρ' H' s'.heap
 ext:Ext (λa=>aj ρ H a\/F a) (F.or (aj ρ H)) (F.or (aj ρ' H')) s.heap s'.heap
 frm:∀b o,F b->s.heap.get? b=some o->¬M b->UpS s'.heap b o
variable{G}
variable{F M:Av}{ρ ρ' ρ'':List (Addr × Addr)}{H H' H'':Hp}{s s' s'':Shared}
theorem Aft.refl(sr:SR G F ρ H s.heap):Aft G F M ρ H s ρ H s:=⟨.refl s,LP _,sr,.refl _ _ _,λ_ o _ e _=>.of e⟩
theorem Aft.trans(a:Aft G F M ρ H s ρ' H' s')(b:Aft G F M ρ' H' s' ρ'' H'' s''):Aft G F M ρ H s ρ'' H'' s'' where
 same:=a.same.trans b.same
 pre:=a.pre.trans b.pre
 sr:=b.sr
 ext:=a.ext.trans b.ext λx m=>m.elim (λo=>(a.ext.grow x (.inr o)).elim (λq=>q.elim (λf=>absurd f (a.sr.disj x o)) λw=>.inl (.inl w)) .inr) λm=>.inl (.inr m)
 frm:=λx o f e n=>by
  obtain⟨sl,e1,q⟩:=a.frm x o f e n;exact .step q (b.frm x _ f e1 n)
theorem Aft.weak{M':Av}(a:Aft G F M ρ H s ρ' H' s')(hm:∀x,M x->M' x):Aft G F M' ρ H s ρ' H' s' where
 same:=a.same
 pre:=a.pre
 sr:=a.sr
 ext:=a.ext
 frm:=λb o f e n=>a.frm b o f e λm=>n (hm b m)
theorem rV{q:Addr × Addr}{i:Nat}(p:ρ<+:ρ')(e:ρ[i]? = some q):ρ'[i]? = some q:=by
 obtain⟨r,rfl⟩:=p;rw[LS (LE.mp e).1];exact e
theorem TRel.ext0{M X X':Av}{h h':Heap}(E:Ext0 M X X' h h')(hm:∀a,M a->X a)(p:ρ<+:ρ'){x:V}{v:Value}(r:TRel G ρ X h x v):TRel G ρ' X' h' x v:=by
 cases x with
 |obj i=>obtain⟨q,e,ev⟩:=r;exact⟨q,rV p e,ev⟩
 |_=>exact Rel.ext0 G E hm r
theorem TRelA.ext0{M X X':Av}{h h':Heap}(E:Ext0 M X X' h h')(hm:∀a,M a->X a)(p:ρ<+:ρ'){xs:List (Nat × V)}:∀{es:List DictEntry},TRelA G ρ X h xs es->TRelA G ρ' X' h' xs es:=by
 induction xs with
 |nil=>exact λr=>r
 |cons _ _ ih=>
  intro es r;obtain⟨e,r,he,k,a,b⟩:=r;exact⟨e,r,he,k,TRel.ext0 E hm p a,ih b⟩
theorem RelO.ext0{M X X':Av}{h h':Heap}(E:Ext0 M X X' h h')(hm:∀a,M a->X a)(p:ρ<+:ρ'){q:Addr × Addr}{o:O}(na:∀a∈aI o q,¬M a)(r:RelO G ρ X h q o):RelO G ρ' X' h' q o:=by
 cases o with
 |lst xs=>obtain⟨z,vs,n,g,l⟩:=r;exact⟨z,vs,n,E.keep _ _ g (na _ LL),RelL.ext0 G E hm l⟩
 |dct kvs=>obtain⟨z,es,n,g,l⟩:=r;exact⟨z,es,n,E.keep _ _ g (na _ LL),RelD.ext0 G E hm l⟩
 |ba l=>obtain⟨z,g⟩:=r;exact⟨z,E.keep _ _ g (na _ LL)⟩
 |ins c fs=>obtain⟨z,g,es,n,gd,l⟩:=r;exact⟨z,E.keep _ _ g (na _ LL),es,n,E.keep _ _ gd (na _ (LK _ LL)),TRelA.ext0 E hm p l⟩
 |dead=>trivial
theorem TRel.ext{M X X':Av}{h h':Heap}(E:Ext M X X' h h')(hm:∀a,M a->X a)(p:ρ<+:ρ'){x:V}{v:Value}(r:TRel G ρ X h x v):TRel G ρ' X' h' x v:=r.ext0 E.to0 hm p
theorem RelO.ext{M X X':Av}{h h':Heap}(E:Ext M X X' h h')(hm:∀a,M a->X a)(p:ρ<+:ρ'){q:Addr × Addr}{o:O}(na:∀a∈aI o q,¬M a)(r:RelO G ρ X h q o):RelO G ρ' X' h' q o:=r.ext0 E.to0 hm p na
theorem Aft.trel(a:Aft G F M ρ H s ρ' H' s')(hm:∀x,M x->F x){x:V}{v:Value}(r:TRel G ρ (F.or (aj ρ H)) s.heap x v):TRel G ρ' (F.or (aj ρ' H')) s'.heap x v:=
 r.ext a.ext (λ_ q=>q.elim .inr .inl) a.pre
theorem Aft.rel(a:Aft G F M ρ H s ρ' H' s')(hm:∀x,M x->F x){x:V}{v:Value}(r:Rel G (F.or (aj ρ H)) s.heap x v):Rel G (F.or (aj ρ' H')) s'.heap x v:=
 Rel.ext G a.ext (λ_ q=>q.elim .inr .inl) r
theorem Aft.relL(a:Aft G F M ρ H s ρ' H' s')(hm:∀x,M x->F x){x:List V}{v:List Value}(r:RelL G (F.or (aj ρ H)) s.heap x v):RelL G (F.or (aj ρ' H')) s'.heap x v:=
 RelL.ext G a.ext (λ_ q=>q.elim .inr .inl) r
theorem SR.keeps{h h':Heap}(x:SR G F ρ H h)(k:∀b o,h.get? b=some o->h'.get? b=some o):SR G F ρ H h' where
 len:=x.len
 rel:=λi q o e g=>(x.rel i q o e g).ext (M:=al) ⟨λb o e _=>k b o e,λb o e=>⟨o,k b o e⟩,λ_ y=>.inl y⟩ (λ_ m=>m.elim) (LP _) (λ_ _ m=>m)
 apart:=x.apart
 disj:=x.disj
 base:=λb o e=>k b o (x.base b o e)
 above:=x.above
theorem Aft.keeps(sr:SR G F ρ H s.heap)(sm:Same s s')(k:∀b o,s.heap.get? b=some o->s'.heap.get? b=some o):Aft G F M ρ H s ρ H s':=
 ⟨sm,LP _,sr.keeps k,⟨λb o e _=>k b o e,λb o e=>⟨o,k b o e⟩,λ_ y=>.inl y⟩,λb o _ e _=>.of (k b o e)⟩
theorem Aft.toks(sr:SR G F ρ H s.heap)(t:Nat):Aft G F M ρ H s ρ H {s with toks:=t}:=.keeps sr ⟨s.heap,t,rfl⟩ λ_ _ e=>e
theorem dX{q:Addr × Addr}{o:O}{a:Addr}(hl:ρ.length=H.length):aj (ρ++[q]) (H++[o]) a↔aj ρ H a\/a∈aI o q:=by
 constructor
 ·rintro⟨i,q',o',e,g,m⟩;rw[ay]at g
  by_cases hi:i<ρ.length
  ·rw[LS hi]at e;rw[LS (hl▸hi)]at g;exact .inl ⟨i,q',o',e,by rw[ay];exact g,m⟩
  ·have hi':i=ρ.length:=by
    have:=(LE.mp e).1;simp at this;lia
   subst hi';rw[LO]at e;rw[hl,LO]at g;cases e;cases g;exact .inr m
 ·rintro(⟨i,q',o',e,g,m⟩|m)
  ·rw[ay]at g;refine⟨i,q',o',?_,?_,m⟩
   ·rw[LS (LE.mp e).1];exact e
   ·rw[ay,LS (LE.mp g).1];exact g
  ·exact⟨ρ.length,q,o,LO,by rw[ay,hl];exact LO,m⟩
theorem Aft.own{q:Addr × Addr}{o:O}(sr:SR G F ρ H s.heap)(sm:Same s s')(k:∀b o,s.heap.get? b=some o->s'.heap.get? b=some o)
  (new:∀a∈aI o q,s.heap.get? a=none/\¬F a)
  (hr:RelO G (ρ++[q]) (F.or (aj (ρ++[q]) (H++[o]))) s'.heap q o) :
  Aft G F M ρ H s (ρ++[q]) (H++[o]) s':=by
 have oa:=λa=>dX (q:=q) (o:=o) (a:=a) sr.len
 have ext:Ext al (F.or (aj ρ H)) (F.or (aj (ρ++[q]) (H++[o]))) s.heap s'.heap:=
  ⟨λb o e _=>k b o e,λb o e=>⟨o,k b o e⟩,λa y=>y.elim (λf=>.inl (.inl f)) λw=>((oa a).mp w).elim (λw=>.inl (.inr w)) λm=>.inr (new a m).1⟩
 refine⟨sm,List.prefix_append _ _,⟨?_,?_,?_,?_,?_,?_⟩,⟨λb o e _=>k b o e,λb o e=>⟨o,k b o e⟩,ext.grow⟩,λb o _ e _=>.of (k b o e)⟩
 ·simp[sr.len]
 ·intro i q' o' e g;rw[ay]at g
  by_cases hi:i<ρ.length
  ·rw[LS hi]at e;rw[LS (sr.len▸hi)]at g;exact(sr.rel i q' o' e (by rw[ay];exact g)).ext ext (λ_ m=>m.elim) (List.prefix_append _ _) (λ_ _ m=>m)
  ·have hi':i=ρ.length:=by
    have:=(LE.mp e).1;simp at this;omega
   subst hi';rw[LO]at e;rw[sr.len,LO]at g;cases e;cases g;exact hr
 ·have old:∀i q' o' a,(ρ++[q])[i]? = some q'->ak (H++[o]) i=some o'->a∈aI o' q'->(ρ[i]? = some q'/\ak H i=some o')\/(i=ρ.length/\a∈aI o q):=by
   intro i q' o' a e g m;rw[ay]at g
   by_cases hi:i<ρ.length
   ·rw[LS hi]at e;rw[LS (sr.len▸hi)]at g;exact .inl ⟨e,by rw[ay];exact g⟩
   ·have hi':i=ρ.length:=by
     have:=(LE.mp e).1;simp at this;omega
    subst hi';rw[LO]at e;rw[sr.len,LO]at g;cases e;cases g;exact .inr ⟨rfl,m⟩
  have there:∀i q' o' a,ρ[i]? = some q'->ak H i=some o'->a∈aI o' q'->∃o,s.heap.get? a=some o:=by
   intro i q' o' a e g m;have r:=sr.rel i q' o' e g
   cases o' with
   |dead=>exact absurd m List.not_mem_nil
   |ins c fs=>
    obtain⟨_,g1,es,n,g2,_⟩:=r
    replace m:=(LI.mp m).imp id LJ.mp
    rcases m with rfl|rfl
    ·exact⟨_,g1⟩
    ·exact⟨_,g2⟩
   |lst=>obtain⟨_,vs,n,g1,_⟩:=r;have m:=LJ.mp m;subst m;exact⟨_,g1⟩
   |dct=>obtain⟨_,vs,n,g1,_⟩:=r;have m:=LJ.mp m;subst m;exact⟨_,g1⟩
   |ba=>obtain⟨_,g1⟩:=r;have m:=LJ.mp m;subst m;exact⟨_,g1⟩
  intro i j q1 r1 o1 o2 a e1 g1 e2 g2 m1 m2;rcases old i q1 o1 a e1 g1 m1 with ⟨e1',g1'⟩|⟨hi,n1⟩<;>rcases old j r1 o2 a e2 g2 m2 with ⟨e2',g2'⟩|⟨hj,n2⟩
  ·exact sr.apart i j q1 r1 o1 o2 a e1' g1' e2' g2' m1 m2
  ·obtain⟨o3,h3⟩:=there i q1 o1 a e1' g1' m1;rw[(new a n2).1]at h3;cases h3
  ·obtain⟨o3,h3⟩:=there j r1 o2 a e2' g2' m2;rw[(new a n1).1]at h3;cases h3
  ·exact hi.trans hj.symm
 ·intro a w;rcases(oa a).mp w with w|m
  ·exact sr.disj a w
  ·exact(new a m).2
 ·exact λb o e=>k b o (sr.base b o e)
 ·intro a w;rcases w with f|w
  ·exact sr.above a (.inl f)
  ·rcases(oa a).mp w with w|m
   ·exact sr.above a (.inr w)
   ·cases z:G.B.get? a with
    |none=>rfl
    |some o=>have:=sr.base a o z;rw[(new a m).1]at this;cases this
theorem fz{a:Addr}{h:Heap}(sr:SR G F ρ H h)(w:aj ρ H a):∃o,h.get? a=some o:=by
 obtain⟨i,q',o',e,g,m⟩:=w;have r:=sr.rel i q' o' e g
 cases o' with
 |dead=>exact absurd m List.not_mem_nil
 |ins c fs=>
  obtain⟨_,g1,es,n,g2,_⟩:=r
  replace m:=(LI.mp m).imp id LJ.mp
  rcases m with rfl|rfl
  ·exact⟨_,g1⟩
  ·exact⟨_,g2⟩
 |lst=>obtain⟨_,vs,n,g1,_⟩:=r;have m:=LJ.mp m;subst m;exact⟨_,g1⟩
 |dct=>obtain⟨_,vs,n,g1,_⟩:=r;have m:=LJ.mp m;subst m;exact⟨_,g1⟩
 |ba=>obtain⟨_,g1⟩:=r;have m:=LJ.mp m;subst m;exact⟨_,g1⟩
theorem Aft.put{q:Addr × Addr}{o o':O}{i:Nat}(sr:SR G F ρ H s.heap)(sm:Same s s')(hq:ρ[i]? = some q)(ho:ak H i=some o)
  (k:∀b x,s.heap.get? b=some x->b∉aI o q->s'.heap.get? b=some x) (th:∀b x,s.heap.get? b=some x->∃x',s'.heap.get? b=some x')
  (sub:∀a∈aI o' q,a∈aI o q)
  (hr:RelO G ρ (F.or (aj ρ (au H i o'))) s'.heap q o'):Aft G F M ρ H s ρ (au H i o') s':=by
 have hget:∀j,ak (au H i o') j=if j=i then some o' else ak H j:=by
  intro j;rw[ay,my,ay,List.getElem?_set];rw[ay]at ho;have hi:=(LE.mp ho).1
  by_cases e:i=j
  ·subst e;simp[hi]
  ·simp[e,Ne.symm e]
 have ow:∀a,aj ρ (au H i o') a->aj ρ H a:=by
  rintro a ⟨j,q',x,e,g,m⟩;rw[hget]at g
  by_cases e':j=i
  ·subst e';simp at g;subst g;rw[hq]at e;cases e;exact⟨j,q,o,hq,ho,sub a m⟩
  ·simp[e']at g;exact⟨j,q',x,e,g,m⟩
 have grow:∀a,F.or (aj ρ (au H i o')) a->F.or (aj ρ H) a\/s.heap.get? a=none:=λa y=>.inl (y.imp_right (ow a));have ext:Ext (λa=>a∈aI o q) (F.or (aj ρ H)) (F.or (aj ρ (au H i o'))) s.heap s'.heap:=⟨k,th,grow⟩;refine⟨sm,LP _,⟨by rw[my];simp[sr.len],?_,?_,λa w=>sr.disj a (ow a w),?_,λa w=>sr.above a (w.imp_right (ow a))⟩,⟨?_,th,grow⟩,λb x f e _=>.of (k b x e λm=>sr.disj b ⟨i,q,o,hq,ho,m⟩ f)⟩
 ·intro j q' x e g;rw[hget]at g
  by_cases e':j=i
  ·subst e';simp at g;subst g;rw[hq]at e;cases e;exact hr
  ·simp[e']at g;exact(sr.rel j q' x e g).ext ext (λa m=>.inr ⟨i,q,o,hq,ho,m⟩) (LP _) (λa m m'=>e' (sr.apart j i q' q x o a e g hq ho m m'))
 ·have back:∀j q' x a,ρ[j]? = some q'->ak (au H i o') j=some x->a∈aI x q'->∃y,ak H j=some y/\a∈aI y q':=by
   intro j q' x a e g m;rw[hget]at g
   by_cases e':j=i
   ·subst e';simp at g;subst g;rw[hq]at e;cases e;exact⟨o,ho,sub a m⟩
   ·simp[e']at g;exact⟨x,g,m⟩
  intro j l q1 r1 o1 o2 a e1 g1 e2 g2 m1 m2;obtain⟨y1,h1,n1⟩:=back j q1 o1 a e1 g1 m1;obtain⟨y2,h2,n2⟩:=back l r1 o2 a e2 g2 m2;exact sr.apart j l q1 r1 y1 y2 a e1 h1 e2 h2 n1 n2
 ·intro b x e;refine k b x (sr.base b x e) λm=>?_;have:=sr.above b (.inr ⟨i,q,o,hq,ho,m⟩);rw[this]at e;cases e
 ·intro b x e n;exact k b x e λm=>n (.inl ⟨i,q,o,hq,ho,m⟩)
end J.Internal
namespace J.Internal
open Sem (wp)
noncomputable def rW(c:Code):Bool:=match c with
 |.builtin id _=>!(Builtin.Bytes.decodersThatHold.contains id)
 |_=>true
def Clean(Γ:Ctx):Prop:=rW Γ.code=true/\∀x∈Γ.below,rW x.1=true
def wpS{α:Type}(M:Model)(A:Around)(t:Sem α)(Q:α->Shared->Prop)(E:Value->Shared->Prop)(s:Shared):Prop:=
 ∀Γ p,Γ.In A->Clean Γ->wp M Γ t (λa _ s'=>Q a s') (λe _ s'=>E e s') p s
def az(M:Model)(A:Around)(c:Code)(R:Result->Shared->Prop)(s:Shared):Prop:=
 ∀Γ p,Γ.code=c->Γ.Below A->Clean Γ->wpCode M Γ R p s
section
variable{α β:Type}{M:Model}{A:Around}{E:Value->Shared->Prop}{s:Shared}
theorem ah{t:Sem α}{Q:α->Shared->Prop}(h:wpAny M A t Q E s):wpS M A t Q E s:=λΓ p i _=>h Γ p i
theorem Bd{c:Code}{R:Result->Shared->Prop}(h:codeAny M A c R s):az M A c R s:=λΓ p e i _=>h Γ p e i
theorem ae{a:α}{Q:α->Shared->Prop}(h:Q a s):wpS M A (pure a) Q E s:=λ_ _ _ _=>h
theorem ag{t:Sem α}{Q Q':α->Shared->Prop}{E':Value->Shared->Prop}(h:wpS M A t Q E s)
  (hQ:∀a s,Q a s->Q' a s) (hE:∀e s,E e s->E' e s):wpS M A t Q' E' s:=
 λΓ p hΓ hc=>Sem.wp_mono M Γ t (λa _ s=>hQ a s) (λe _ s=>hE e s) p s (h Γ p hΓ hc)
theorem aa{m:Sem α}{f:α->Sem β}{Q:β->Shared->Prop}(h:wpS M A m (λa s'=>wpS M A (f a) Q E s') E s) :
  wpS M A (m>>=f) Q E s:=λΓ p hΓ hc=>by
 rw[Sem.wp_bind'];exact Sem.wp_mono M Γ m (λa p' s' h'=>h' Γ p' hΓ hc) (λ_ _ _ h'=>h') p s (h Γ p hΓ hc)
theorem c6{m:Sem α}{k:Value->Sem Unit}{Q:α->Shared->Prop}
  (h:wpS M A m Q (λe s'=>wpS M A (k e) (λ_ s''=>E e s'') E s') s):wpS M A (m.onRaise k) Q E s:=λΓ p hΓ hc=>by
 rw[Sem.wp_onRaise];exact Sem.wp_mono M Γ m (λ_ _ _ h'=>h') (λe p' s' h'=>h' Γ p' hΓ hc) p s (h Γ p hΓ hc)
theorem jK{m:Sem α}{Q:Except Value α->Shared->Prop}(h:wpS M A m (λa=>Q (.ok a)) (λe=>Q (.error e)) s) :
  wpS M A m.attempt Q E s:=λΓ p hΓ hc=>by rw[Sem.wp_attempt];exact h Γ p hΓ hc
theorem ad{vs:List Value}{m:Sem α}{Q:α->Shared->Prop}(h:wpS M A m Q E s):wpS M A (holding vs m) Q E s:=
 λΓ p hΓ hc=>by rw[Sem.wp_holding];exact h Γ p hΓ hc
theorem cz{vs:List Value}{m:Sem Value}{Q:Value->Shared->Prop}(h:wpS M A m Q E s):wpS M A (operate vs m) Q E s:=
 λΓ p hΓ hc=>by rw[Sem.wp_operate];exact h Γ p hΓ hc
theorem yE{vs:List Value}{m:Sem α}{Q:α->Shared->Prop}(h:wpS M A m Q E s):wpS M A (m.keep vs) Q E s:=
 λΓ p hΓ hc=>by rw[Sem.wp_keep];exact h Γ p hΓ hc
theorem ac{pos:Pos}{Q:Unit->Shared->Prop}(h:Q () s):wpS M A (standAt pos) Q E s:=λ_ _ _ _=>h
theorem oj{Q:Unit->Shared->Prop}(h:Q () s):wpS M A point Q E s:=λ_ _ _ _=>h
theorem jk{tag:String}{Q:Unit->Shared->Prop}(h:Q () s):wpS M A (rule tag) Q E s:=λ_ _ _ _=>h
theorem lu{Q:Setting->Shared->Prop}(h:Q ⟨M.prog,M.w.params⟩ s):wpS M A ask Q E s:=λ_ _ _ _=>h
theorem aM{t:Sem α}{a:α}{Q:α->Shared->Prop}(e:t=pure a)(h:Q a s):wpS M A t Q E s:=by subst e;exact ae h
theorem qc{c:Prop}[Decidable c]{a b:Sem α}{Q:α->Shared->Prop}(h:if c then wpS M A a Q E s else wpS M A b Q E s) :
  wpS M A (if c then a else b) Q E s:=by split<;>simp_all
theorem Clean.enter{Γ:Ctx}(h:Clean Γ){c:Code}{hd:Option Value}{p:Pos}(hc:rW c=true):Clean (Γ.enter c hd p):=
 ⟨hc,λx hx=>by
  rcases LI.mp hx with rfl|hx
  ·exact h.1
  ·exact h.2 x hx⟩
theorem Clean.goto{Γ:Ctx}(h:Clean Γ){c:Code}(hc:rW c=true):Clean (Γ.goto c):=⟨hc,h.2⟩
theorem u9{c:Code}{h:Option Value}{Q:Flow->Shared->Prop}
  (hc:az M (A.mark h) c (λr s'=>match r with|.ok f=>Q f s'|.error e=>E e s') s) (hk:rW c=true) (hnb:h≠some byPass) :
  wpS M A (PySem.run c h) Q E s:=
 λΓ p hΓ hcl=>by rw[Sem.wp_run];exact hc _ p rfl (hΓ.enter c h p hnb) (hcl.enter hk)
theorem om{c:Code}{Q:Value->Shared->Prop}
  (hc:az M A c (λr s'=>match r with|.ok (.ret v)=>Q v s'|.ok _=>False|.error e=>E e s') s) (hk:rW c=true) :
  wpS M A (runValue c) Q E s:=λΓ p hΓ hcl=>by rw[Sem.wp_runValue];exact hc _ p rfl (hΓ.enter c none p (by intro x;cases x)) (hcl.enter hk)
theorem ds{f:Value}{pos:List Value}{kw:List (Str × Value)}{Q:Value->Shared->Prop}
  (hc:az M A (.call f ⟨pos,kw⟩) (λr s'=>match r with|.ok (.ret v)=>Q v s'|.ok _=>False|.error e=>E e s') s) :
  wpS M A (call f pos kw) Q E s:=om hc rfl
theorem qd{c:Code}{R:Result->Shared->Prop}
  (h:wpS M (A.under c) (M.den c) (λfin s'=>match fin with|.done f=>R (.ok f) s'|.again c'=>c'.quiet=true/\rW c'=true/\az M A c' R s')
   (λe s'=>R (.error e) s') s):az M A c R s:=λΓ p hc hΓ hcl=>by
 rw[wpCode_iff_wp,hc];refine Sem.wp_mono M Γ _ (λfin p' s' h'=>?_) (λ_ _ _ h'=>h') p s (h Γ p (hc▸hΓ.in) hcl)
 cases fin with
 |done f=>exact h'
 |again c'=>exact⟨h'.1,h'.2.2 (Γ.goto c') p' rfl (hΓ.goto c') (hcl.goto h'.2.1)⟩
theorem bX{c:Code}{R R':Result->Shared->Prop}(h:az M A c R s)(hR:∀r s,R r s->R' r s):az M A c R' s:=
 λΓ p hc hΓ hcl=>let ⟨r,s',h1,h2⟩:=h Γ p hc hΓ hcl;⟨r,s',h1,hR _ _ h2⟩
end
noncomputable section
def cr(A:Around)(E:Value->Shared->Prop)(s:Shared)(self:Value)(Q:Bool->Shared->Prop):Prop:=
 ∀{M:Model}(hg:A.guards=some [])(h:Q false s),wpS M A (Builtin.Bytes.exported self) Q E s
namespace KwS_exported
def zz:=ep (V5 cr)
theorem TT:cr zz.1 zz.2.1 zz.2.2.1 zz.2.2.2.1 zz.2.2.2.2:=λ{M} hg h=>
 λΓ p hΓ hcl=>by
 unfold Builtin.Bytes.exported;show zz.2.2.2.2 (((Γ.code,p)::Γ.below).any _) zz.2.2.1
 have hgd:∀x∈((Γ.code,p)::Γ.below),x.1.isGuard=false/\rW x.1=true:=by
  have e:=hΓ.2.2.2.1 [] hg;rw[<-guardsOf_cons Γ.code p]at e;intro x hx;constructor
  ·unfold guardsOf at e;have:=List.filter_eq_nil_iff.mp e x.1 (List.mem_map_of_mem hx);simpa using this
  ·rcases LI.mp hx with rfl|hx
   ·exact hcl.1
   ·exact hcl.2 x hx
 rw[List.any_eq_false.mpr]
 ·exact h
 ·intro x hx;have hx:=hgd x hx;obtain⟨c,q⟩:=x
  cases c with
  |builtin id args=>
   have no:∀{n:String},guardIds.contains n=true->¬id=n:=λk e=>L8 (hx.1.symm.trans (e▸k));have h3:Builtin.Bytes.decodersThatHold.contains id=false:=(Mv _).mp hx.2;have fin:∀v,¬ (Builtin.Bytes.sameRef v zz.2.2.2.1&&Builtin.Bytes.decodersThatHold.contains id)=true:=λv w=>by rw[h3,Bool.and_false]at w;exact L8 w
   have n1:=no (n := "bytearray.__contains__") (by decide +kernel);have n2:=no (n := "bytearray.__mod__") (by decide +kernel);have n3:=no (n := "bytearray.__rmod__") (by decide +kernel);have n4:=no (n := "_struct.pack_into.held") (by decide +kernel);have n5:=no (n := "bytearray.find.held") (by decide +kernel);obtain⟨pos,kw⟩:=args
   cases pos with
   |nil=>
    intro w
    delta Builtin.Bytes.exported.match_1 at w
    exact L8 (((dif_neg n1).trans ((dif_neg n2).trans ((dif_neg n3).trans ((dif_neg n4).trans (dif_neg n5))))).symm.trans w)
   |cons v l=>
    intro w
    delta Builtin.Bytes.exported.match_1 at w
    exact fin v (((dif_neg n1).trans ((dif_neg n2).trans ((dif_neg n3).trans ((dif_neg n4).trans (dif_neg n5))))).symm.trans w)
  |_=>exact λw=>(by cases w)
end KwS_exported
end
theorem iZ{A E s self Q}:cr A E s self Q:=cN (p:=V5 cr) KwS_exported.TT (A,E,s,self,Q)
end J.Internal
namespace J.Internal
noncomputable def yF(M:Model)(A:Around)(R:Result->Shared->Prop)(fin:Fin)(s':Shared):Prop:=match fin with
 |.done f=>R (.ok f) s'
 |.again c'=>c'.quiet=true/\rW c'=true/\az M A c' R s'
def bE(M:Model)(A:Around)(env:Env)(E:Value->Shared->Prop):Value->Shared->Prop:=
 λx s'=>wpS M A (noteFrame x env) (λ_ s''=>E x s'') E s'
def Ea(M:Model)(A:Around)(env:Env)(E:Value->Shared->Prop):Value->Shared->Prop:=
 λx s'=>wpS M A (do
  if (<-field x 1)==.none then unsupported "frame.own-activation:exception-without-traceback"
  setFlight x env.frame) (λ_ s''=>E x s'') E s'
section
variable{M:Model}{A:Around}{E:Value->Shared->Prop}{s:Shared}{α:Type}
theorem gH{env:Env}{m:Sem α}{Q:α->Shared->Prop}(h:wpS M A m Q (bE M A env E) s):wpS M A (m.onRaise λx=>do noteFrame x env;theTreesLotGoes x) Q E s:=
 c6 (ag h (λ_ _ q=>q) λ_ _ hx=>aa (ag hx (λ_ _ e=>ah (wpAny_theTreesLotGoes e)) λ_ _ e=>e))
theorem qe{env:Env}{m:Sem α}{pos:Pos}{Q:α->Shared->Prop}(h:wpS M A m Q (bE M A env E) s):wpS M A (m.onRaise λx=>do noteFrame x env;standAt pos) Q E s:=
 c6 (ag h (λ_ _ q=>q) λ_ _ hx=>aa (ag hx (λ_ _ e=>ac e) λ_ _ e=>e))
theorem lJ{c:Code}{env:Env}{h:Option Value}{Q:Flow->Shared->Prop}
  (hc:az M (A.mark h) c (λr s'=>match r with|.ok f=>Q f s'|.error e=>Ea M A env E e s') s) (hk:rW c=true) (hnb:h≠some byPass) :
  wpS M A (runOwn c env h) Q E s:=by
 unfold runOwn;exact c6 (u9 hc hk hnb)
end
section
variable{prog:Program}{w:World}{A:Around}{s:Shared}{R:Result->Shared->Prop}
theorem c7{c:Code}(h:wpS (model prog w) (A.under c) ((model prog w).den c) (yF (model prog w) A R) (λe s'=>R (.error e) s') s):az (model prog w) A c R s:=
 qd (ag h (λfin s' h'=>by cases fin<;>exact h') λ_ _ h'=>h')
theorem jL{id:String}{args:Args}{b:Builtin}(hb:entryFor table id=some b)
  (h:wpS (model prog w) (A.under (.builtin id args)) (b args) (yF (model prog w) A R) (λe s'=>R (.error e) s') s):az (model prog w) A (.builtin id args) R s:=by
 refine c7 ?_;show wpS _ _ (match entryFor table id with|some b=>b args|none=>unsupported ((withoutEnding? id "#data").getD id)) _ _ s;rw[hb];exact h
theorem c8{id:String}{args:Args}{b:Builtin}(hq:(Code.builtin id args).quiet=true)(hk:rW (.builtin id args)=true)(hb:entryFor table id=some b)
  (h:wpS (model prog w) A.in1 (checkBuiltinCall id args) (λ_ s₁=>wpS (model prog w) (A.under (.builtin id args)) (b args) (yF (model prog w) A R) (λe s'=>R (.error e) s') s₁)
   (λe s'=>R (.error e) s') s):az (model prog w) A (.call (.builtin id) args) R s:=by
 refine c7 ?_;show wpS _ A.in1 (do checkBuiltinCall id args;again (.builtin id args)) _ _ s;exact aa (ag h (λ_ s₁ h₁=>ae ⟨hq,hk,jL hb h₁⟩) λ_ _ h'=>h')
theorem je{id:String}{args:Args}{b:Builtin}(hq:plainId id=true)(hk:rW (.builtin id args)=true)(hb:entryFor table id=some b)
  (h:wpS (model prog w) A.in1 (checkBuiltinCall id args) (λ_ s₁=>wpS (model prog w) A.in1 (b args) (yF (model prog w) A R) (λe s'=>R (.error e) s') s₁)
   (λe s'=>R (.error e) s') s):az (model prog w) A (.call (.builtin id) args) R s:=
 c8 (plainId_quiet hq args) hk hb (by rw[Around.under_plainId hq args];exact h)
theorem yG{body:List Stmt}{env:Env}
  (h:wpS (model prog w) (A.deeper env) (execs body env) (λf s'=>R (.ok (.ret (match f with|.ret v=>v|_=>.none))) s')
   (λe s'=>wpS (model prog w) (A.deeper env) (leaving env e) (λ_ s''=>R (.error e) s'') (λe' s''=>R (.error e') s'') s') s) :
  az (model prog w) A (.func body env) R s:=by
 refine c7 ?_;show wpS _ (A.deeper env) (do point;match <-(execs body env).onRaise (leaving env)with|.ret v=>ret v|_=>ret .none) _ _ s;refine aa (oj (aa (c6 (ag h (λf s' h'=>?_) λ_ _ h'=>h'))));cases f<;>exact ae h'
end
noncomputable section
def a9(prog:Program)(w:World)(A:Around)(s:Shared)(R:Result->Shared->Prop)(a:Addr)(args:Args)(o:Obj)(fd:FuncData)(body:List Stmt):Prop:=
 ∀(hroom:A.depth<recursionLimit)(ho:s.heap.get? a=some o)(hd':o.data = .func fd)(hco:fd.scope.isCoroutine=false)(hgen:fd.scope.isGenerator=false)(hbody:fd.body = .stmts body)(hcd:s.heap.CodeRec fd.code fd.qualname)(h:wpS (model prog w) A.in1 (bindArgs fd args) (λbinds s₁=>
   wpS (model prog w) A.in1 (newFunctionEnv fd.scope fd.globals fd.closure binds (fd.qualname ++ ".<locals>.") (some a) fd.code none fd.builtins)
    (λenv s₂=>s₂.heap.NoLimit/\az (model prog w) A (.func body env) R s₂) (λe s'=>R (.error e) s') s₁) (λe s'=>R (.error e) s') s),az (model prog w) A (.call (.ref a) args) R s
namespace KcS_call_function
def z:=ep (uX a9)
def A:=z.2.2.1
def s:=z.2.2.2.1
def a:=z.2.2.2.2.2.1
theorem T:a9 z.1 z.2.1 A s z.2.2.2.2.1 a z.2.2.2.2.2.2.1 z.2.2.2.2.2.2.2.1 z.2.2.2.2.2.2.2.2.1 z.2.2.2.2.2.2.2.2.2:=by
 intro hroom ho hd' hco hgen hbody hcd h;refine c7 ?_;show wpS _ A.in1 (load a>>=_) _ _ s;refine aa (ah (wpAny_load ho ?_));obtain⟨c,oc,vs,tq,hc,hoc,hdc,hq⟩:=hcd;rw[hd'];show wpS _ _ (callFunction a _ z.2.2.2.2.2.2.1) _ _ s;unfold callFunction;rw[hc]at h ⊢;refine aa (m:=field (.ref c) 1) (ah (wpAny_field hoc hdc hq (aa (ae ?_))))
 exact aa (ag h (λbinds s₁ h₁=>aa (ag h₁ (λenv s₂ h₂=>aa (ah (wpAny_enterFrame h₂.1 hroom
  (by rw[hgen,hco,hbody];exact ae ⟨rfl,rfl,h₂.2⟩)))) λ_ _ h'=>h')) λ_ _ h'=>h')
end KcS_call_function
end
theorem iC{prog w A s R a args o fd body}:a9 prog w A s R a args o fd body:=cN (p:=uX a9) KcS_call_function.T (prog,w,A,s,R,a,args,o,fd,body)
section
variable{prog:Program}{w:World}{A:Around}{s:Shared}{R:Result->Shared->Prop}{E:Value->Shared->Prop}
theorem va{stmts:List Stmt}{env:Env}
  (h:wpS (model prog w) A (execs stmts env) (λf s'=>R (.ok f) s') (bE (model prog w) A env λe s'=>R (.error e) s') s):az (model prog w) A (.block stmts env) R s:=by
 refine c7 ?_;show wpS _ _ (do return Fin.done (<-(execs stmts env).onRaise (λx=>do noteFrame x env;theTreesLotGoes x))) _ _ s;exact aa (gH (ag h (λf s' h'=>ae h') λ_ _ h'=>h'))
theorem vc{target:Expr}{it:Value}{body orelse:List Stmt}{env:Env}
  (h:wpS (model prog w) A (pyNext it) (λr s₁=>match r with
   |none=>az (model prog w) A (.block orelse env) R s₁
   |some v=>wpS (model prog w) A (letOwnedTupleGo target it v) (λ_ s₁'=>
     wpS (model prog w) A (assign target env v) (λ_ s₂=>wpS (model prog w) A (execs body env) (λf s₃=>match f with
      |.next|.cont=>az (model prog w) A (.forLoop target it body orelse env) R s₃
      |.brk=>R (.ok .next) s₃
      |.ret v=>R (.ok (.ret v)) s₃) (bE (model prog w) A env λe s'=>R (.error e) s') s₂) (bE (model prog w) A env λe s'=>R (.error e) s') s₁') (bE (model prog w) A env λe s'=>R (.error e) s') s₁)
   (bE (model prog w) A env λe s'=>R (.error e) s') s):az (model prog w) A (.forLoop target it body orelse env) R s:=by
 refine c7 ?_;show wpS _ A ((forTurn target it body orelse env).onRaise (λx=>do noteFrame x env;theTreesLotGoes x)) _ _ s;refine gH ?_;simp -iota only[forTurn];refine aa (ac (aa (c6 (ag h (λr s₁ h₁=>?_) λ_ _ h'=>ac h'))))
 cases r with
 |none=>exact ae ⟨rfl,rfl,h₁⟩
 |some v=>
  refine aa (ag h₁ (λ_ s₁' h₁'=>?_) λ_ _ h'=>h');refine aa (ag h₁' (λ_ s₂ h₂=>aa (ag h₂ (λf s₃ h₃=>?_) λ_ _ h'=>h')) λ_ _ h'=>h')
  cases f with
  |next=>exact ae ⟨rfl,rfl,h₃⟩
  |cont=>exact ae ⟨rfl,rfl,h₃⟩
  |brk=>exact ae h₃
  |ret v=>exact ae h₃
theorem vd{test:Expr}{body orelse:List Stmt}{env:Env}
  (h:wpS (model prog w) A (isTrue test env (eval test env)) (λb s₂=>
    if b then wpS (model prog w) A (execs body env) (λf s₃=>match f with
      |.next|.cont=>az (model prog w) A (.whileLoop test body orelse env) R s₃
      |.brk=>R (.ok .next) s₃
      |.ret v=>R (.ok (.ret v)) s₃) (bE (model prog w) A env λe s'=>R (.error e) s') s₂
    else wpS (model prog w) A (execs orelse env) (λf s₃=>R (.ok f) s₃) (bE (model prog w) A env λe s'=>R (.error e) s') s₂)
    (bE (model prog w) A env λe s'=>R (.error e) s') s):az (model prog w) A (.whileLoop test body orelse env) R s:=by
 refine c7 ?_;show wpS _ A ((whileTurn test body orelse env).onRaise (λx=>do noteFrame x env;theTreesLotGoes x)) _ _ s;refine gH ?_;simp only[whileTurn];refine aa (ag h (λb s₂ h₂=>?_) λ_ _ h'=>h')
 cases b with
 |false=>
  simp only[Bool.false_eq_true,if_false]at h₂ ⊢;exact aa (ag h₂ (λf s₃ h₃=>ae h₃) λ_ _ h'=>h')
 |true=>
  simp only[if_true]at h₂ ⊢;refine aa (ag h₂ (λf s₃ h₃=>?_) λ_ _ h'=>h')
  cases f with
  |next=>exact ae ⟨rfl,rfl,h₃⟩
  |cont=>exact ae ⟨rfl,rfl,h₃⟩
  |brk=>exact ae h₃
  |ret v=>exact ae h₃
theorem mz{elt target iter:Expr}{ifs:List Expr}{scope:Scope}{pos:Pos}{it acc:Value}{env:Env}
  (h:∀(X:Prop),True) (hi:∀(Q:Value->Shared->Prop)(E:Value->Shared->Prop),Q it s->wpAny (model prog w) A (pyIter it) Q E s)
  (h0:az (model prog w) A (.compLoop (.ListComp elt [⟨target,iter,ifs,0⟩] scope pos) 0 it acc env) R s) :
  az (model prog w) A (.compStart (.ListComp elt [⟨target,iter,ifs,0⟩] scope pos) 0 it acc env) R s:=by
 refine c7 ?_;show wpS _ _ ((compStart (.ListComp elt [⟨target,iter,ifs,0⟩] scope pos) 0 it acc env).onRaise (λx=>do noteFrame x env;standAt theWindowsPlace)) _ _ s;refine qe ?_;unfold compStart;show wpS _ _ (ask>>=_) _ _ s;refine aa (lu (qc ?_))
 split
 ·first
   |exact aa (ae (ae ⟨rfl,rfl,h0⟩))
   |exact ae ⟨rfl,rfl,h0⟩
 ·first
   |exact aa (jk (aa (ac (aa (ah (hi _ _ (ae ⟨rfl,rfl,h0⟩)))))))
   |(refine aa (jk ?_);show wpS _ _ (standAt iter.pos>>=_) _ _ s;exact aa (ac (aa (ah (hi _ _ (ae ⟨rfl,rfl,h0⟩))))))
end
noncomputable section
def fA(prog:Program)(w:World)(A:Around)(s:Shared)(R:Result->Shared->Prop)(elt:Expr)(target:Expr)(iter:Expr)(ifs:List Expr)(scope:Scope)(pos:Pos)(it:Value)(acc:Value)(env:Env):Prop:=
 ∀(h:wpS (model prog w) A (pyNext it) (λr s₁=>match r with
   |none=>R (.ok .next) s₁
   |some v=>wpS (model prog w) A (letOwnedTupleGo target it v) (λ_ s₂=>wpS (model prog w) A (assign target env v) (λ_ s₃=>
     wpS (model prog w) A (forIn ifs true λc r=>if r=true then do let ok <-isTrue c env (eval c env);pure (ForInStep.yield ok)else pure (ForInStep.yield r)) (λok s₄=>match ok with
      |true=>wpS (model prog w) A (eval elt env) (λx s₅=>wpS (model prog w) A (call (.builtin "list.append") [acc,x]) (λ_ s₆=>az (model prog w) A (.compLoop (.ListComp elt [⟨target,iter,ifs,0⟩] scope pos) 0 it acc env) R s₆)
        (bE (model prog w) A env λe s'=>R (.error e) s') s₅) (bE (model prog w) A env λe s'=>R (.error e) s') s₄
      |false=>az (model prog w) A (.compLoop (.ListComp elt [⟨target,iter,ifs,0⟩] scope pos) 0 it acc env) R s₄) (bE (model prog w) A env λe s'=>R (.error e) s') s₃)
     (bE (model prog w) A env λe s'=>R (.error e) s') s₂) (bE (model prog w) A env λe s'=>R (.error e) s') s₁)
   (bE (model prog w) A env λe s'=>R (.error e) s') s),az (model prog w) A (.compLoop (.ListComp elt [⟨target,iter,ifs,0⟩] scope pos) 0 it acc env) R s
namespace KcS_comp
def z:=ep (D5 fA)
def s:=z.2.2.2.1
def iter:=z.2.2.2.2.2.2.2.1
def it:=z.2.2.2.2.2.2.2.2.2.2.2.1
def env:=z.2.2.2.2.2.2.2.2.2.2.2.2.2
theorem T:fA z.1 z.2.1 z.2.2.1 s z.2.2.2.2.1 z.2.2.2.2.2.1 z.2.2.2.2.2.2.1 iter z.2.2.2.2.2.2.2.2.1 z.2.2.2.2.2.2.2.2.2.1 z.2.2.2.2.2.2.2.2.2.2.1 it z.2.2.2.2.2.2.2.2.2.2.2.2.1 env:=by
 intro h;refine c7 ?_;show wpS _ _ ((compTurn (.ListComp z.2.2.2.2.2.1 [⟨z.2.2.2.2.2.2.1,iter,z.2.2.2.2.2.2.2.2.1,0⟩] z.2.2.2.2.2.2.2.2.2.1 z.2.2.2.2.2.2.2.2.2.2.1) 0 it z.2.2.2.2.2.2.2.2.2.2.2.2.1 env).onRaise (λx=>do noteFrame x env;theTreesLotGoes x)) _ _ s;refine gH ?_;unfold compTurn;show wpS _ _ (standAt iter.pos>>=λ_=>pyNext it>>=_) _ _ s;refine aa (ac (aa (ag h (λr s₁ h₁=>?_) λ_ _ h'=>h')))
 cases r with
 |none=>exact ae h₁
 |some v=>
  refine aa (ag h₁ (λ_ s₂ h₂=>?_) λ_ _ h'=>h');refine aa (ag h₂ (λ_ s₃ h₃=>?_) λ_ _ h'=>h');refine aa (ag h₃ (λok s₄ h₄=>?_) λ_ _ h'=>h')
  cases ok with
  |true=>
   dsimp only at h₄ ⊢;refine aa (aa (ag h₄ (λx s₅ h₅=>aa (ag h₅ (λ_ s₆ h₆=>ae ?_) λ_ _ h'=>h')) λ_ _ h'=>h'));exact ae ⟨rfl,rfl,h₆⟩
  |false=>exact ae ⟨rfl,rfl,h₄⟩
end KcS_comp
end
theorem rY{prog w A s R elt target iter ifs scope pos it acc env}:fA prog w A s R elt target iter ifs scope pos it acc env:=cN (p:=D5 fA) KcS_comp.T (prog,w,A,s,R,elt,target,iter,ifs,scope,pos,it,acc,env)
noncomputable section
def jl(prog:Program)(w:World)(A:Around)(R:Result->Shared->Prop)(h:Heap)(g:Array GenState)(d:Drawn)(t:Nat)(os:OsState)(C:Addr)(rest:List Value)(init:Value):Prop:=
 ∀(Y:Makes (model prog w) h C)(hi:Looks (model prog w) h (typeLookup (.ref C) "__init__") (some init))(hb:∀self,Looks (model prog w) h (bindSpecial init self) (init,[self]))(hne:(some init != some (Value.builtin "object.__init__"))=true)(hq:az (model prog w) (A.under (.builtin "type.__call__" ⟨.ref C::rest,[]⟩)) (.call init ⟨.ref (h.objs.size+1)::rest,[]⟩) (InitBack (h.objs.size+1) R) ⟨(h.push emptyDict).push (instObj C h.objs.size),g,d,t,os⟩),az (model prog w) A (.call (.ref C) ⟨rest,[]⟩) R ⟨h,g,d,t,os⟩
namespace KmakeS
def z:=ep (BN jl)
def prog:=z.1
def w:=z.2.1
def h:=z.2.2.2.2.1
def C:=z.2.2.2.2.2.2.2.2.2.1
theorem T:jl prog w z.2.2.1 z.2.2.2.1 h z.2.2.2.2.2.1 z.2.2.2.2.2.2.1 z.2.2.2.2.2.2.2.1 z.2.2.2.2.2.2.2.2.1 C z.2.2.2.2.2.2.2.2.2.2.1 z.2.2.2.2.2.2.2.2.2.2.2:=by
 intro Y hi hb hne hq;have Y':=Y;obtain⟨⟨oc,od,cd,sl,hC,e1,e2,e4⟩,made,base,self,top,call,typ⟩:=Y;refine c7 ?_;show wpS _ _ (callAny (.ref C) _) _ _ _;refine aa (ah (wpAny_load hC ?_));show wpS _ _ (callAny.viaDunder (.ref C) _) _ _ _;unfold callAny.viaDunder;refine aa (ah (call.here ?_));dsimp only;rw[tc_bind];refine aa (ae (aa (ae ?_)));refine ae (a:=Fin.again (.call (.builtin "type.__call__") ⟨.ref C::z.2.2.2.2.2.2.2.2.2.2.1,[]⟩)) ⟨rfl,rfl,?_⟩;refine c8 (Code.quiet_builtin _ (by decide +kernel)) (show(!(Builtin.Bytes.decodersThatHold.contains "type.__call__"))=true by decide +kernel) entry_typeCall (ah (check_slot tc_kind tc_split typ (tc_args _ _ _) ?_));unfold Builtin.«type.__call__»;have hm:Looks (model prog w) h (mroOf (.ref C)) cd.mro:=((Looks.ld (part:=none) hC).andThen .now).andThen .now;have k:∀b o,h.get? b=some o->((h.push emptyDict).push (instObj C h.objs.size)).get? b=some o:=λb o e=>Heap.get?_push_of_some _ (Heap.get?_push_of_some _ e);have hx:((h.push emptyDict).push (instObj C h.objs.size)).get? (h.objs.size+1)=some (instObj C h.objs.size):=by heap_get
 have t1:Looks (model prog w) ((h.push emptyDict).push (instObj C h.objs.size)) (typeOf (.ref (h.objs.size+1))) (.ref C):=(Looks.ld hx).andThen .now;have s1:=self.keeps k;have i1:=hi.keeps k;have b1:=(hb (.ref (h.objs.size+1))).keeps k;refine aa (ah (hm.here ?_));simp -iota only[e4,Bool.false_eq_true,if_false];refine aa (ah (made.here ?_));dsimp only;refine aa (ae ?_);refine aa (ad (ds (Bd (new_K Y' hi (.inl hne) ?_))));unfold isInstance;refine aa (aa (ah (t1.here (ah (s1.here ?_)))));simp only[Bool.not_true,Bool.false_eq_true,if_false];refine aa (ad ?_);unfold callSpecial? specialOf;refine aa (aa (ah (t1.here (ah (i1.here ?_)))));refine ad (aa (ah (b1.here ?_)));dsimp only;refine aa (ds (bX hq λr s' z=>?_));rcases r with e|(v|_|_|_)<;>first|exact z|exact z.elim|skip
 obtain⟨rfl,z⟩:=z;refine ae ?_;dsimp only;exact ae z
end KmakeS
end
theorem Eb{prog w A R h g d t os C rest init}:jl prog w A R h g d t os C rest init:=cN (p:=BN jl) KmakeS.T (prog,w,A,R,h,g,d,t,os,C,rest,init)
section
variable{M:Model}{A:Around}{E:Value->Shared->Prop}
def fC(M:Model)(A:Around)(use:Option (Value->Sem Unit))(Q:Value->Shared->Prop)(E:Value->Shared->Prop)(acc:Value)(C:Addr)(r:Result)(s':Shared):Prop:=
 match r,use with
 |.ok _,none=>∃m,s'.heap.Ns C m/\∀h',Heap.SameBut C s'.heap h'->Q acc {s' with heap:=h'}
 |.ok _,some u=>wpS M A (u acc) (λ_ s''=>∃m,s''.heap.Ns C m/\∀h',Heap.SameBut C s''.heap h'->Q .none {s'' with heap:=h'}) E s'
 |.error _,_=>False
end
noncomputable section
def bb(A:Around)(env:Env)(scope:Scope):Prop:=
 ∀{M:Model}{E:Value->Shared->Prop}{s:Shared}{e:Expr}{pos:Pos}{newAcc:Sem Value}{first:Sem Value}{g:Comprehension}{gs:List Comprehension}{cl:List (Str × Addr)}{use:Option (Value->Sem Unit)}{Q:Value->Shared->Prop}(hcl:clausesOf e=g::gs)(hs:∀x,foldedSetIterable g.iter env x=pure x)(hclos:closureFor scope env=pure cl)(hkind:scope.kind = .function)(hnames:∀x∈scope.names,x.2 = .local->scope.names.lookup x.1=some .local)(h:wpS M A first (λx s₁=>wpS M A (pyIter x) (λit s₂=>wpS M A newAcc (λacc s₃=>
   wpS M A (newFunctionEnv scope env.globals cl [] env.qual none .none (some env)) (λcenv s₄=>
    az M A (.compStart e 0 it acc {cenv with scope:=relabel scope env}) (fC M A use Q E acc cenv.locals) s₄) E s₃) E s₂) E s₁) E s),wpS M A (comprehension e scope env pos newAcc false first use) Q E s
namespace KwS_comprehension
def z:=ep (V3 bb)
def A:=z.1
def env:=z.2.1
def scope:=z.2.2
theorem T:bb A env scope:=by
 intro M E s e pos newAcc first g gs cl use Q hcl hs hclos hkind hnames h
 unfold comprehension;rw[hclos,hcl];refine aa (ag h (λx s₁ h₁=>aa (ac (aa (aM (hs x) (aa (ad (ag h₁ (λit s₂ h₂=>?_) λ_ _ h'=>h'))))))) λ_ _ h'=>h')
 have standIf:∀{α:Type}{c:Prop}[Decidable c]{pos:Pos}{k:PUnit->Sem α}{Q:α->Shared->Prop}{s:Shared},wpS M A (k ()) Q E s->wpS M A (if c then(standAt pos>>=k)else k ()) Q E s:=by
  intro α c _ pos k Q s h
  split
  ·exact aa (ac h)
  ·exact h
 refine standIf (aa (ag h₂ (λacc s₃ h₃=>aa (ae (aa (ag h₃ (λcenv s₄ h₄=>?_) λ_ _ h'=>h')))) λ_ _ h'=>h'));dsimp only;have hv:∀x∈(scope.names.filter λx=>(x.2==.local||x.2==.cell)&&x.1 != (".0" : Str)).reverse,x.2 = .local->
   Env.kindOf {cenv with scope:=relabel scope env} x.1=some .local:=λx hx hl=>lookup_relabel_local (hnames x (List.mem_filter.mp (List.mem_reverse.mp hx)).1 hl)
 have hv':∀x∈(scope.names.filter λx=>(x.2==.local||x.2==.cell)&&x.1 != (".0" : Str)).reverse.drop 1++(scope.names.filter λx=>(x.2==.local||x.2==.cell)&&x.1 != (".0" : Str)).reverse.take 1,
   x.2 = .local->Env.kindOf {cenv with scope:=relabel scope env} x.1=some .local:=λx hx hl=>by
  rcases Mm.mp hx with h1|h1
  ·exact hv x (List.mem_of_mem_drop h1) hl
  ·exact hv x (List.mem_of_mem_take h1) hl
 refine ad (aa (jK (ad (u9 (bX h₄ λr s' hr=>?_) rfl (by intro x;cases x)))))
 cases r with
 |ok f=>
  cases use with
  |none=>
   obtain⟨m,hn,hr⟩:=hr;exact aa (ad (ah (wpAny_comp_letGo (cenv:={cenv with scope:=relabel scope env}) hkind _ s' m hv hn λh' m' _ hs'=>ae (hr h' hs'))))
  |some u=>
   refine aa (jk (aa (ad (ag hr (λ_ s'' hr'=>?_) λ_ _ h'=>h'))));obtain⟨m,hn,hr'⟩:=hr';exact aa (ah (wpAny_comp_letGo (cenv:={cenv with scope:=relabel scope env}) hkind _ s'' m hv' hn λh' m' _ hs'=>ae (hr' h' hs')))
 |error x=>exact hr.elim
end KwS_comprehension
end
theorem dN{A env scope}:bb A env scope:=cN (p:=V3 bb) KwS_comprehension.T (A,env,scope)
variable(G:Cx)
noncomputable abbrev Md:Model:=model G.p G.w
noncomputable def frs(A:Around):List Addr:=(A.frames.getD []).filterMap (·.frame)
structure Rm(n:Nat)(A:Around):Prop where
 hd:A.handled=none
 dp:A.depth+3*n+103<recursionLimit
 fr:∃env l,A.frames=some (env::l)/\env.scope.isGenerator=false/\env.scope.isCoroutine=false/\env.builtins=builtinsNs/\env.globals=mainGlobals
 un:A.units+60*n+60<cLine
 gd:A.guards=some []
def Stk(F:Av)(A:Around)(h:Heap):Prop:=
 ∃l,A.frames=some l/\∀env∈l,env.scope.kind≠.module/\∃L o es ep,env.frame=some L/\F L/\h.get? L=some o/\o.data = .dict es ep
noncomputable def Hu(cF:Value)(h:Heap)(Xs:Av)(e:Addr)(st:Option (Option Addr)):Prop:=Xs e/\match st with
 |none=>∃oe vs,h.get? e=some oe/\oe.cls=cF/\oe.data = .fields vs/\vs[1]? = some .none
 |some fl=>∃oe vs T oT ts,Xs T/\h.get? e=some oe/\oe.cls=cF/\oe.data = .fields vs/\vs[1]? = some (.ref T)/\T≠e/\h.get? T=some oT/\oT.data = .fields ts/\
   ts[3]? = some (match fl with|none=>Value.none|some L=>rawInt L)
structure EX(F M:Av)(A:Around)(ρ:List (Addr × Addr))(H:Hp)(s:Shared)(H':Hp)(st:Option (Option Addr))(e:Value)(s':Shared):Prop where
 ex:∃ea ρ' Xs,e = .ref ea/\Hu G.cF s'.heap Xs ea st/\(∀a,Xs a->s.heap.get? a=none)/\ρ<+:ρ'/\SR G (F.or Xs) ρ' H' s'.heap/\
  Ext (λa=>aj ρ H a\/F a) (F.or (aj ρ H)) (F.or (aj ρ' H')) s.heap s'.heap
 same:Same s s'
 frm:∀b o,F b->s.heap.get? b=some o->¬M b->UpS s'.heap b o
 stk:Stk F A s'.heap
noncomputable def Wps{α β:Type}(F M:Av)(A:Around)(ρ:List (Addr × Addr))(H:Hp)(s:Shared)(t:Sem α)(R:List (Addr × Addr)->Hp->Heap->β->α->Prop)(P:Option (Option Addr)->Prop):Out β->Prop
 |.ok b H'=>wpS (Md G) A t (λa s'=>∃ρ',Aft G F M ρ H s ρ' H' s'/\R ρ' H' s'.heap b a) (λ_ _=>False) s
 |.exc H'=>wpS (Md G) A t (λ_ _=>False) (λe s'=>∃st,P st/\EX G F M A ρ H s H' st e s') s
 |.bad=>True
variable{G}
variable{α β γ δ:Type}{F M:Av}{A:Around}{ρ ρ':List (Addr × Addr)}{H H':Hp}{s s':Shared}{P:Option (Option Addr)->Prop}
theorem Stk.frs{h:Heap}(x:Stk F A h){b:Addr}(m:b∈frs A):F b:=by
 obtain⟨l,e,k⟩:=x;unfold J.Internal.frs at m;rw[e,Option.getD_some,List.mem_filterMap]at m;obtain⟨env,he,hb⟩:=m;obtain⟨_,L,_,_,_,e1,f,_⟩:=k env he;rw[hb]at e1;cases e1;exact f
theorem Stk.aft{M:Av}(x:Stk F A s.heap)(a:Aft G F M ρ H s ρ' H' s')(sr:SR G F ρ H s.heap)(hm:∀b,b∈J.Internal.frs A->¬M b):Stk F A s'.heap:=by
 obtain⟨l,e,k⟩:=x;refine⟨l,e,λenv he=>?_⟩;obtain⟨k1,L,o,es,ep,e1,f,g,d⟩:=k env he
 obtain⟨sl,g',_⟩:=a.frm L o f g (hm L (by
  unfold J.Internal.frs;rw[e,Option.getD_some,List.mem_filterMap]
  exact⟨env,he,e1⟩))
 exact⟨k1,L,_,es,ep,e1,f,g',d⟩
theorem EX.trans{H'':Hp}{st:Option (Option Addr)}{e:Value}{s'':Shared}(a:Aft G F M ρ H s ρ' H' s')(sr:SR G F ρ H s.heap)(fr:∀b,b∈frs A->F b)(x:EX G F M A ρ' H' s' H'' st e s''):EX G F M A ρ H s H'' st e s'':=by
 obtain⟨⟨ea,ρ'',Xs,he,hx,hn,hp,hs,hE⟩,hsm,hf,hst⟩:=x
 have th:∀b,s'.heap.get? b=none->s.heap.get? b=none:=λb q=>by
  cases z:s.heap.get? b with
  |none=>rfl
  |some o=>obtain⟨o',e'⟩:=a.ext.there b o z;rw[e']at q;cases q
 refine⟨⟨ea,ρ'',Xs,he,hx,λa h=>th a (hn a h),a.pre.trans hp,hs,?_⟩,a.same.trans hsm,?_,hst⟩
 ·refine Ext.trans a.ext hE λy m=>?_;rcases m with o|m
  ·rcases a.ext.grow y (.inr o)with q|q
   ·rcases q with f|w
    ·exact absurd f (a.sr.disj y o)
    ·exact .inl (.inl w)
   ·exact .inr q
  ·exact .inl (.inr m)
 ·intro b o f g n;obtain⟨sl,e1,q⟩:=a.frm b o f g n;exact .step q (hf b _ f e1 n)
theorem Wps.vb{t:Sem α}{k:α->Sem γ}{R:List (Addr × Addr)->Hp->Heap->β->α->Prop}{R':List (Addr × Addr)->Hp->Heap->δ->γ->Prop}{x:Out β}{f:β->Hp->Out δ}
  (sr:SR G F ρ H s.heap) (fr:∀b,b∈frs A->F b) (h:Wps G F M A ρ H s t R P x)
  (hk:∀a b ρ1 H1 s1,x = .ok b H1->Aft G F M ρ H s ρ1 H1 s1->R ρ1 H1 s1.heap b a->Wps G F M A ρ1 H1 s1 (k a) R' P (f b H1)) :
  Wps G F M A ρ H s (t>>=k) R' P (x.vb f):=by
 cases x with
 |bad=>trivial
 |exc H1=>trivial
 |ok b H1=>
  show Wps G F M A ρ H s (t>>=k) R' P (f b H1);have h':wpS (Md G) A t (λa s'=>∃ρ',Aft G F M ρ H s ρ' H1 s'/\R ρ' H1 s'.heap b a) (λ_ _=>False) s:=h;generalize hf:f b H1=r at hk
  cases r with
  |bad=>trivial
  |ok d H2=>
   refine aa (ag h' (λa s1 q=>?_) λ_ _ q=>q.elim);obtain⟨ρ1,af,r⟩:=q;have z:=hk a b ρ1 H1 s1 rfl af r;rw[hf]at z;exact ag z (λc s2 q=>let ⟨ρ2,af2,r2⟩:=q;⟨ρ2,af.trans af2,r2⟩) λ_ _ q=>q
  |exc H2=>
   refine aa (ag h' (λa s1 q=>?_) λ_ _ q=>q.elim);obtain⟨ρ1,af,r⟩:=q;have z:=hk a b ρ1 H1 s1 rfl af r;rw[hf]at z;exact ag z (λ_ _ q=>q) λe s2 q=>let ⟨st,p,q⟩:=q;⟨st,p,q.trans af sr fr⟩
theorem Wps.sb{t:Sem α}{k:α->Sem γ}{R:List (Addr × Addr)->Hp->Heap->β->α->Prop}{R':List (Addr × Addr)->Hp->Heap->δ->γ->Prop}{x:Out β}{f:β->Hp->Out δ}
  (sr:SR G F ρ H s.heap) (fr:∀b,b∈frs A->F b) (h:Wps G F M A ρ H s t R P x)
  (hk:∀a b ρ1 H1 s1,x = .ok b H1->Aft G F M ρ H s ρ1 H1 s1->R ρ1 H1 s1.heap b a->Wps G F M A ρ1 H1 s1 (k a) R' P (f b H1)) :
  Wps G F M A ρ H s (t>>=k) R' P (x.sb f):=by
 cases x with
 |bad=>trivial
 |exc H1=>
  have h':wpS (Md G) A t (λ_ _=>False) (λe s'=>∃st,P st/\EX G F M A ρ H s H1 st e s') s:=h;exact aa (ag h' (λ_ _ q=>q.elim) λ_ _ q=>q)
 |ok b H1=>exact Wps.vb (x:=.ok b H1) sr fr h hk
theorem Wps.mono{t:Sem α}{R R':List (Addr × Addr)->Hp->Heap->β->α->Prop}{x:Out β}(h:Wps G F M A ρ H s t R P x)
  (hr:∀b H1 ρ1 s1 a,x = .ok b H1->Aft G F M ρ H s ρ1 H1 s1->R ρ1 H1 s1.heap b a->R' ρ1 H1 s1.heap b a):Wps G F M A ρ H s t R' P x:=by
 cases x with
 |bad=>trivial
 |exc H1=>exact h
 |ok b H1=>exact ag (show wpS _ _ _ _ _ _ from h) (λa s1 q=>let ⟨ρ1,af,r⟩:=q;⟨ρ1,af,hr b H1 ρ1 s1 a rfl af r⟩) λ_ _ q=>q
theorem Wps.guard{t:Sem α}{R:List (Addr × Addr)->Hp->Heap->β->α->Prop}{c:Bool}{x:Out β}(h:c=true->Wps G F M A ρ H s t R P x):Wps G F M A ρ H s t R P (J.Internal.guard c x):=by
 cases c with
 |true=>exact h rfl
 |false=>trivial
theorem Wps.weak{M':Av}{t:Sem α}{R:List (Addr × Addr)->Hp->Heap->β->α->Prop}{x:Out β}(h:Wps G F M A ρ H s t R P x)(hm:∀a,M a->M' a)  : Wps G F M' A ρ H s t R P x:=by
 cases x with
 |bad=>trivial
 |exc H1=>
  refine ag (show wpS _ _ _ _ _ _ from h) (λ_ _ q=>q) λe s1 q=>?_;obtain⟨st,p,hx,hsm,hf,hst⟩:=q;exact⟨st,p,hx,hsm,λb o f g n=>hf b o f g λq=>n (hm b q),hst⟩
 |ok b H1=>exact ag (show wpS _ _ _ _ _ _ from h) (λa s1 q=>let ⟨ρ1,af,r⟩:=q;⟨ρ1,af.weak hm,r⟩) λ_ _ q=>q
theorem Wps.via{t t':Sem α}{R:List (Addr × Addr)->Hp->Heap->β->α->Prop}{x:Out β}(hv:∀(Q:α->Shared->Prop)(E:Value->Shared->Prop),wpS (Md G) A t Q E s->wpS (Md G) A t' Q E s)
  (h:Wps G F M A ρ H s t R P x):Wps G F M A ρ H s t' R P x:=by
 cases x with
 |bad=>trivial
 |exc H1=>exact hv _ _ h
 |ok b H1=>exact hv _ _ h
noncomputable def RTs(G:Cx)(F:Av)(ρ:List (Addr × Addr))(H:Hp)(h:Heap):List V->List Value->Prop
 |[],vs=>vs=[]
 |x::xs,vs=>∃v r,vs=v::r/\TRel G ρ (F.or (aj ρ H)) h x v/\RTs G F ρ H h xs r
noncomputable abbrev RV(G:Cx)(F:Av):List (Addr × Addr)->Hp->Heap->V->Value->Prop:=λρ H h b a=>TRel G ρ (F.or (aj ρ H)) h b a
theorem RTs.aft(a:Aft G F M ρ H s ρ' H' s')(hm:∀x,M x->F x):∀{xs:List V}{vs:List Value},RTs G F ρ H s.heap xs vs->RTs G F ρ' H' s'.heap xs vs:=by
 intro xs
 induction xs with
 |nil=>
  intro _ r;exact r
 |cons xx rr ih=>
  rintro _ ⟨v,r,e,x,y⟩;exact⟨v,r,e,a.trel hm x,ih y⟩
structure EnvR(G:Cx)(F:Av)(ρ:List (Addr × Addr))(H:Hp)(sc:Scope)(nm:List Str)(env:Env)(σ:ai)(h:Heap):Prop where
 kind:env.scope.kind = .function
 glob:env.globals=mainGlobals
 bui:env.builtins=builtinsNs
 names:∀x k,sc.names.lookup x=some k->env.kindOf x=some k\/(k = .free/\env.kindOf x=some .cell)
 locF:F env.locals
 celF:∀x c,env.cells.lookup x=some c->F c
 loc:∃m,h.Ns env.locals m/\∀i V x,aV σ i=some V->nm[i]? = some x->sc.names.lookup x=some .local->∃v,m x=some v/\TRel G ρ (F.or (aj ρ H)) h V v
 cel:∀i V x,aV σ i=some V->nm[i]? = some x->(sc.names.lookup x=some .cell\/sc.names.lookup x=some .free)->∃c v,env.cells.lookup x=some c/\h.IsCell c (some v)/\TRel G ρ (F.or (aj ρ H)) h V v
 cel0:∀x,sc.names.lookup x=some .cell\/sc.names.lookup x=some .free->∃c v,env.cells.lookup x=some c/\h.IsCell c v
 apart:∀x y c,env.cells.lookup x=some c->env.cells.lookup y=some c->x=y
 cL:∀x c,env.cells.lookup x=some c->c≠env.locals
theorem EnvR.aft{sc:Scope}{nm:List Str}{env:Env}{σ:ai}(x:EnvR G F ρ H sc nm env σ s.heap)(a:Aft G F al ρ H s ρ' H' s')(sr:SR G F ρ H s.heap):EnvR G F ρ' H' sc nm env σ s'.heap where
 kind:=x.kind
 glob:=x.glob
 bui:=x.bui
 names:=x.names
 locF:=x.locF
 celF:=x.celF
 loc:=by
  obtain⟨m,⟨o,es,ep,g,r⟩,k⟩:=x.loc;obtain⟨sl,g',_⟩:=a.frm _ o x.locF g λq=>q;refine⟨m,⟨_,es,ep,g',r⟩,λi V y e1 e2 e3=>?_⟩;obtain⟨v,e4,t⟩:=k i V y e1 e2 e3;exact⟨v,e4,a.trel (λ_ q=>q.elim) t⟩
 cel:=λi V y e1 e2 e3=>by
  obtain⟨c,v,e4,⟨o,g,d⟩,t⟩:=x.cel i V y e1 e2 e3;obtain⟨sl,g',_⟩:=a.frm _ o (x.celF y c e4) g λq=>q;exact⟨c,v,e4,⟨_,g',d⟩,a.trel (λ_ q=>q.elim) t⟩
 cel0:=λy e=>by
  obtain⟨c,v,e4,⟨o,g,d⟩⟩:=x.cel0 y e;obtain⟨sl,g',_⟩:=a.frm _ o (x.celF y c e4) g λq=>q;exact⟨c,v,e4,_,g',d⟩
 apart:=x.apart
 cL:=x.cL
end J.Internal
namespace J.Internal
variable{G:Cx}
variable{α β:Type}{F M:Av}{A:Around}{ρ:List (Addr × Addr)}{H:Hp}{s:Shared}{Z:Option (Option Addr)->Prop}
theorem Wps.val{t:Sem α}{R:List (Addr × Addr)->Hp->Heap->β->α->Prop}{b:β}{v:α}{tk:Nat}(sr:SR G F ρ H s.heap)
  (hv:∀(Q:α->Shared->Prop)(E:Value->Shared->Prop),Q v {s with toks:=tk}->wpAny (Md G) A t Q E s) (r:R ρ H s.heap b v):Wps G F M A ρ H s t R Z (.ok b H):=
 ah (hv _ _ ⟨ρ,.toks sr tk,r⟩)
section names
variable{sc:Scope}{nm:List Str}{env:Env}{σ:ai}{x:Str}{pos:Pos}{i:Nat}
theorem Be(sr:SR G F ρ H s.heap)(ev:EnvR G F ρ H sc nm env σ s.heap)(hn:nm[i]? = some x)(hk:sc.names.lookup x=some .local\/sc.names.lookup x=some .cell\/sc.names.lookup x=some .free)
  (hd:(x==("__debug__" : Str))=false) (hc:(x==("__classdict__" : Str))=false):Wps G F al A ρ H s (eval (.Name x pos) env) (RV G F) Z (optV (aV σ i) H):=by
 cases hg:aV σ i with
 |none=>trivial
 |some V=>
  show Wps G F al A ρ H s (eval (.Name x pos) env) (RV G F) Z (.ok V H);rcases hk with hk|hk
  ·obtain⟨m,hns,k⟩:=ev.loc;obtain⟨v,hv,t⟩:=k i V x hg hn hk
   have hl:env.kindOf x=some .local:=by
    rcases ev.names x _ hk with h|⟨h,_⟩
    ·exact h
    ·cases h
   exact Wps.val (v:=v) (tk:=s.toks) sr (λQ E q=>wpAny_Name (wpAny_loadName_local ev.kind hl hns hv q) hd) t
  ·obtain⟨c,v,hc1,hv,t⟩:=ev.cel i V x hg hn hk
   have hl:env.kindOf x=some .cell\/env.kindOf x=some .free:=by
    rcases hk with hk|hk
    ·rcases ev.names x _ hk with h|⟨h,_⟩
     ·exact .inl h
     ·cases h
    ·rcases ev.names x _ hk with h|⟨_,h⟩
     ·exact .inr h
     ·exact .inl h
   rcases hl with hl|hl
   ·exact Wps.val (v:=v) (tk:=s.toks) sr (λQ E q=>wpAny_Name (wpAny_loadName_cell ev.kind hl hc1 hv q) hd) t
   ·exact Wps.val (v:=v) (tk:=s.toks) sr (λQ E q=>wpAny_Name (wpAny_loadName_free ev.kind hl hc1 hv q hc) hd) t
theorem yH{k:Nat}(sr:SR G F ρ H s.heap):Wps G F al A ρ H s (eval (.Constant .none k pos) env) (RV G F) Z (.ok .none H):=
 Wps.val (v:=.none) (tk:=s.toks) sr (λQ E q=>wpAny_pure q) (show Value.none = .none from rfl)
theorem yI{k:Nat}{b:Bool}(sr:SR G F ρ H s.heap):Wps G F al A ρ H s (eval (.Constant (.bool b) k pos) env) (RV G F) Z (.ok (.bool b) H):=
 Wps.val (v:=.bool b) (tk:=s.toks) sr (λQ E q=>wpAny_pure q) (show Value.bool b = .bool b from rfl)
theorem BW{k:Nat}{i:Int}(sr:SR G F ρ H s.heap):Wps G F al A ρ H s (eval (.Constant (.int i) k pos) env) (RV G F) Z (.ok (.int i) H):=
 Wps.val (v:=.int i s.toks) (tk:=s.toks+1) sr (λQ E q=>λ_ _ _=>q) (show ∃t,Value.int i s.toks = .int i t from⟨_,rfl⟩)
theorem ve{k:Nat}{l:List Nat}(sr:SR G F ρ H s.heap)(hz:l.length<=aq):Wps G F al A ρ H s (eval (.Constant (.str ⟨l.toArray⟩) k pos) env) (RV G F) Z (.ok (.str l) H):=
 Wps.val (v:=.str ⟨l.toArray⟩ s.toks) (tk:=s.toks+1) sr (λQ E q=>λ_ _ _=>q) (show l.length<=aq/\∃t,Value.str ⟨l.toArray⟩ s.toks = .str ⟨l.toArray⟩ t from⟨hz,_,rfl⟩)
theorem vf{k:Nat}{l:List UInt8}(sr:SR G F ρ H s.heap)(hz:l.length<=aq):Wps G F al A ρ H s (eval (.Constant (.bytes l) k pos) env) (RV G F) Z (.ok (.byt l) H):=
 Wps.val (v:=.bytes l.toArray s.toks) (tk:=s.toks+1) sr (λQ E q=>λ_ _ _=>q) (show l.length<=aq/\∃t,Value.bytes l.toArray s.toks = .bytes l.toArray t from⟨hz,_,rfl⟩)
end names
theorem be{i:Int}{t:Tok}{h:Heap}:RV G F ρ H h (.int i) (.int i t):=⟨t,rfl⟩
theorem aW{b:Bool}{h:Heap}:RV G F ρ H h (.bool b) (.bool b):=rfl
theorem vg{X:Av}{h:Heap}{i:Int}{v:Value}(r:TRel G ρ X h (.int i) v):∃t,v = .int i t:=r
theorem eV{X:Av}{h:Heap}{l:List Nat}{v:Value}(r:TRel G ρ X h (.str l) v):l.length<=aq/\∃t,v = .str ⟨l.toArray⟩ t:=r
theorem iD{X:Av}{h:Heap}{l:List UInt8}{v:Value}(r:TRel G ρ X h (.byt l) v):l.length<=aq/\∃t,v = .bytes l.toArray t:=r
theorem jm{X:Av}{h:Heap}{v:Value}(r:TRel G ρ X h .none v):v = .none:=r
theorem rZ{X:Av}{h:Heap}{b:Bool}{v:Value}(r:TRel G ρ X h (.bool b) v):v = .bool b:=r
noncomputable def Hv:BK->Operator
 |.add=>.Add|.sub=>.Sub|.mul=>.Mult|.fdiv=>.FloorDiv|.mod=>.Mod|.pow=>.Pow|.shl=>.LShift|.shr=>.RShift|.band=>.BitAnd|.bor=>.BitOr
theorem cY{x:Int}(h:small x=true) : -(2 ^ 62)<x/\x<2 ^ 62:=by
 unfold small at h;simpa using h
theorem tM{x:Int}(h:small x=true):x.natAbs<2 ^ 64:=by
 have:=cY h;omega
structure Bf(G:Cx):Prop where
 nolimit:G.B.NoLimit
 noseer:G.B.NoSeer
 tree:G.p.given.tree=none
theorem vh{n:Nat}(bf:Bf G)(sr:SR G F ρ H s.heap)(rm:Rm n A):PySem.PylongRoom (Md G) A s:=by
 obtain⟨env,l,h1,h2,h3,h4,h5⟩:=rm.fr;refine PySem.PylongRoom.of (bf.nolimit.keeps sr.base) ?_ (PySem.SeerAt.of (bf.noseer.keeps sr.base) bf.tree h1 h2 h3 h4 h5);have:=rm.dp;simp only[Builtin.pylongFrames]at *;omega
theorem jM{x:Int}(h:small x=true):Builtin.Int.intBits x<=64:=intBits_le_64 (Int.lt_trans (by decide) (cY h).1) (Int.lt_trans (cY h).2 (by decide))
theorem vl{p r:Int}(hp:0<=p)(hr:0<=r):Builtin.bitOr p r=((p.toNat|||r.toNat:Nat):Int):=by
 rw[bitOr_and,bitAnd_pp hp hr];have h:(p+r:Int)=((p.toNat|||r.toNat:Nat):Int)+((p.toNat &&& r.toNat:Nat):Int):=by rw[<-Int.natCast_add,nat_or_add_and,Int.natCast_add,Int.toNat_of_nonneg hp,Int.toNat_of_nonneg hr]
 exact Int.sub_eq_iff_eq_add.mpr h
theorem vm{n k:Int}(h:n<k)(hk:k<=1000000):n<=1000000:=Mt (Int.le_of_lt h) hk
theorem BX{a:Int}(h0:0<=a)(h:a<1024):a.natAbs<2 ^ 64:=by
 obtain⟨n,rfl⟩:=Int.eq_ofNat_of_zero_le h0;exact Nat.lt_trans (Mi.mp h) (by decide)
theorem BY{p q:Prop}[Decidable p][Decidable q]{P:Prop}(h:(decide p&&decide q)=true)(k:p->q->P):P:=k (of_decide_eq_true (LD.mp h).1) (of_decide_eq_true (LD.mp h).2)
theorem Ec{p q:Prop}[Decidable p][Decidable q]{b:Bool}{P:Prop}(h:(b&&decide p&&decide q)=true)(k:b=true->p->q->P):P:=k (LD.mp (LD.mp h).1).1 (of_decide_eq_true (LD.mp (LD.mp h).1).2) (of_decide_eq_true (LD.mp h).2)
theorem Jp{p q r s:Prop}[Decidable p][Decidable q][Decidable r][Decidable s]{P:Prop}(h:(decide p&&decide q&&decide r&&decide s)=true)(k:p->q->r->s->P):P:=Ec h λh c d=>BY h λa b=>k a b c d
section
variable{X:Av}{h:Heap}{a:V}{x:Value}{d:α}
@[elab_as_elim] theorem cg{f:Int->α}{P:Value->α->Prop}(r:TRel G ρ X h a x)(h0:P x d)(h1:∀i t,P (.int i t) (f i)):P x (a.onI f d):=
 kI (P:=λa b=>TRel G ρ X h a x->P x b) (λ_=>h0) (λi r=>(vg r).elim λt e=>e▸h1 i t) r
@[elab_as_elim] theorem tN{f:Bool->α}{P:Value->α->Prop}(r:TRel G ρ X h a x)(h0:P x d)(h1:∀b,P (.bool b) (f b)):P x (a.onB f d):=
 kB (P:=λa b=>TRel G ρ X h a x->P x b) (λ_=>h0) (λi r=>(rZ r).symm▸h1 i) r
@[elab_as_elim] theorem jN{f:List Nat->α}{P:Value->α->Prop}(r:TRel G ρ X h a x)(h0:P x d)(h1:∀l t,l.length<=aq->P (.str ⟨l.toArray⟩ t) (f l)):P x (a.onS f d):=
 kS (P:=λa b=>TRel G ρ X h a x->P x b) (λ_=>h0) (λi r=>(eV r).2.elim λt e=>e▸h1 i t (eV r).1) r
@[elab_as_elim] theorem jf{f:List UInt8->α}{P:Value->α->Prop}(r:TRel G ρ X h a x)(h0:P x d)(h1:∀l t,l.length<=aq->P (.bytes l.toArray t) (f l)):P x (a.onY f d):=
 kY (P:=λa b=>TRel G ρ X h a x->P x b) (λ_=>h0) (λi r=>(iD r).2.elim λt e=>e▸h1 i t (iD r).1) r
@[elab_as_elim] theorem Hw{f:List V->α}{P:Value->α->Prop}(r:TRel G ρ X h a x)(h0:P x d)(h1:∀l,TRel G ρ X h (.tup l) x->P x (f l)):P x (a.onT f d):=
 kT (P:=λa b=>TRel G ρ X h a x->P x b) (λ_=>h0) (λi r=>h1 i r) r
@[elab_as_elim] theorem yJ{f:List V->α}{P:Value->α->Prop}(r:TRel G ρ X h a x)(h0:P x d)(h1:∀l,TRel G ρ X h (.lst l) x->P x (f l)):P x (a.onL f d):=
 kL (P:=λa b=>TRel G ρ X h a x->P x b) (λ_=>h0) (λi r=>h1 i r) r
@[elab_as_elim] theorem Hx{f:List (List Nat × V)->α}{P:Value->α->Prop}(r:TRel G ρ X h a x)(h0:P x d)(h1:∀l,TRel G ρ X h (.dct l) x->P x (f l)):P x (a.onD f d):=
 kD (P:=λa b=>TRel G ρ X h a x->P x b) (λ_=>h0) (λi r=>h1 i r) r
@[elab_as_elim] theorem Hy{f:Nat->α}{P:Value->α->Prop}(r:TRel G ρ X h a x)(h0:P x d)(h1:∀l,TRel G ρ X h (.obj l) x->P x (f l)):P x (a.onO f d):=
 kO (P:=λa b=>TRel G ρ X h a x->P x b) (λ_=>h0) (λi r=>h1 i r) r
@[elab_as_elim] theorem on{c:α}{P:Value->α->Prop}(r:TRel G ρ X h a x)(h0:P x d)(h1:P .none c):P x (a.onN c d):=
 kN (P:=λa b=>TRel G ρ X h a x->P x b) (λ_=>h0) (λr=>(jm r).symm▸h1) r
@[elab_as_elim] theorem wT{f:List V->α}{P:Value->α->Prop}(r:TRel G ρ X h a x)(h0:P x d)(h1:∀l b vs n,l.length<=aq->¬X b->h.get? b=some (cS vs n)->RelL G X h l vs->P (.ref b) (f l)):P x (a.onT f d):=
 Hw r h0 λl r=>(show _/\_ from r).2.elim λb r=>r.elim λvs r=>r.elim λn q=>q.1▸h1 l b vs n (show _/\_ from ‹TRel G ρ X h (.tup l) x›).1 q.2.1 q.2.2.1 q.2.2.2
@[elab_as_elim] theorem wL{f:List V->α}{P:Value->α->Prop}(r:TRel G ρ X h a x)(h0:P x d)(h1:∀l b vs n,l.length<=aq->¬X b->h.get? b=some (bD vs n)->RelL G X h l vs->P (.ref b) (f l)):P x (a.onL f d):=
 yJ r h0 λl r=>(show _/\_ from r).2.elim λb r=>r.elim λvs r=>r.elim λn q=>q.1▸h1 l b vs n (show _/\_ from ‹TRel G ρ X h (.lst l) x›).1 q.2.1 q.2.2.1 q.2.2.2
@[elab_as_elim] theorem wD{f:List (List Nat × V)->α}{P:Value->α->Prop}(r:TRel G ρ X h a x)(h0:P x d)(h1:∀l b es n,l.length<=aq->(l.map (·.1)).Nodup->(b==sysModules)=false->¬X b->h.get? b=some (dictOf es n)->RelD G X h l es->P (.ref b) (f l)):P x (a.onD f d):=
 Hx r h0 λl r=>(show(_/\_)/\_ from r).2.elim λb r=>r.elim λvs r=>r.elim λn q=>q.1▸h1 l b vs n (show(_/\_)/\_ from ‹TRel G ρ X h (.dct l) x›).1.1 (show(_/\_)/\_ from ‹TRel G ρ X h (.dct l) x›).1.2 q.2.1 q.2.2.1 q.2.2.2.1 q.2.2.2.2
end
@[elab_as_elim] theorem Bh{h:Heap}{a:V}{x:Value}{f:Nat->O->Out β}{P:Value->Out β->Prop}(sr:SR G F ρ H h)(r:TRel G ρ (F.or (aj ρ H)) h a x)(h0:∀x,P x .bad)(h1:∀i q o,ρ[i]? = some q->ak H i=some o->RelO G ρ (F.or (aj ρ H)) h q o->P (.ref q.1) (f i o)):P x (a.at H f):=
 Hy (P:=P) (f:=λi=>bo (ak H i) (f i)) r (h0 x) λi r=>r.elim λq e=>e.2▸(match ho:ak H i with
  |none=>h0 _
  |some o=>h1 i q o e.1 ho (sr.rel i q _ e.1 ho))
@[elab_as_elim] theorem Jr{h:Heap}{a:V}{x:Value}{f:List V->Out β}{P:Value->Out β->Prop}(sr:SR G F ρ H h)(r:TRel G ρ (F.or (aj ρ H)) h a x)(h0:∀x,P x .bad)(h1:∀l b vs n,l.length<=aq->h.get? b=some (bD vs n)->RelL G (F.or (aj ρ H)) h l vs->P (.ref b) (f l)):P x (a.onOL H f):=
 Bh (P:=P) (f:=λ_ o=>o.onL f .bad) sr r h0 λi q o e1 e2 ro=>D7 (P:=λo y=>RelO G ρ (F.or (aj ρ H)) h q o->P (.ref q.1) y) (λ_=>h0 _) (λl ro=>ro.2.elim λvs w=>w.elim λn w=>h1 l _ vs n ro.1 w.1 w.2) ro
@[elab_as_elim] theorem e1{l:List α}{f:α->β}{d:β}{P:List α->β->Prop}(h0:P l d)(h1:∀x,P [x] (f x)):P l (DS l f d):=match l,h0 with
 |[],h0=>h0
 |[x],_=>h1 x
 |_::_::_,h0=>h0
@[elab_as_elim] theorem e2{l:List α}{f:α->α->β}{d:β}{P:List α->β->Prop}(h0:P l d)(h1:∀x y,P [x,y] (f x y)):P l (pS l f d):=match l,h0 with
 |[],h0=>h0
 |x::r,h0=>e1 (P:=λr=>P (x::r)) h0 (h1 x)
@[elab_as_elim] theorem e3{l:List α}{f:α->α->α->β}{d:β}{P:List α->β->Prop}(h0:P l d)(h1:∀x y z,P [x,y,z] (f x y z)):P l (Jb l f d):=match l,h0 with
 |[],h0=>h0
 |x::r,h0=>e2 (P:=λr=>P (x::r)) h0 (h1 x)
@[elab_as_elim] theorem mB{o:Option α}{f:α->Out β}{P:Out β->Prop}(h0:P .bad)(h1:∀x,o=some x->P (f x)):P (bo o f):=match o,h1 with
 |none,_=>h0
 |some x,h1=>h1 x rfl
@[elab_as_elim] theorem oq{X:Av}{h:Heap}{x:V}{v:Value}{P:Value->Prop}(r:TRel G ρ X h x v)(h0:P .none)(hb:∀b,P (.bool b))(hi:∀i t,P (.int i t))(hs:∀x t,P (.str x t))(hy:∀b t,P (.bytes b t))(hr:∀a,P (.ref a)):P v:=by
 cases x with
 |none=>exact(jm r).symm▸h0
 |bool b=>exact(rZ r).symm▸hb b
 |int i=>exact(vg r).elim λt e=>e▸hi i t
 |str l=>exact(eV r).2.elim λt e=>e▸hs _ t
 |byt l=>exact(iD r).2.elim λt e=>e▸hy _ t
 |obj i=>exact r.elim λq e=>e.2▸hr _
 |tup l=>exact(show _/\∃a vs n,v = .ref a/\_ from r).2.elim λa w=>w.elim λ_ w=>w.elim λ_ w=>w.1▸hr a
 |lst l=>exact(show _/\∃a vs n,v = .ref a/\_ from r).2.elim λa w=>w.elim λ_ w=>w.elim λ_ w=>w.1▸hr a
 |dct l=>exact(show _/\∃a vs n,v = .ref a/\_ from r).2.elim λa w=>w.elim λ_ w=>w.elim λ_ w=>w.1▸hr a
 |rcd c l=>exact(show _/\∃a b vs n,v = .ref a/\_ from r).2.elim λa w=>w.elim λ_ w=>w.elim λ_ w=>w.elim λ_ w=>w.1▸hr a
 |rng a b c=>exact(show _/\∃a b c d e,v = .ref a/\_ from r).2.elim λa w=>w.elim λ_ w=>w.elim λ_ w=>w.elim λ_ w=>w.elim λ_ w=>w.1▸hr a
section
variable{X:Av}{h:Heap}
@[elab_as_elim] theorem bY{x:V}{xs:List V}{vs:List Value}{P:List Value->Prop}(r:RelL G X h (x::xs) vs)(k:∀v q,Rel G X h x v->RelL G X h xs q->P (v::q)):P vs:=
 have r:∃v q,vs=v::q/\Rel G X h x v/\RelL G X h xs q:=r
 r.elim λv r=>r.elim λq r=>r.1▸k v q r.2.1 r.2.2
@[elab_as_elim] theorem eW{p:List Nat × V}{xs:List (List Nat × V)}{es:List DictEntry}{P:List DictEntry->Prop}(r:RelD G X h (p::xs) es)(k:∀e q,KeyIs G.w.params p.1 e->p.1.length<=aq->Rel G X h p.2 e.val->RelD G X h xs q->P (e::q)):P es:=
 have r:∃e q,es=e::q/\KeyIs G.w.params p.1 e/\p.1.length<=aq/\Rel G X h p.2 e.val/\RelD G X h xs q:=r
 r.elim λv r=>r.elim λq r=>r.1▸k v q r.2.1 r.2.2.1 r.2.2.2.1 r.2.2.2.2
theorem RelL.length{xs:List V}:∀{vs:List Value},RelL G X h xs vs->vs.length=xs.length:=by
 induction xs with
 |nil=>exact λr=>congrArg List.length r
 |cons x xs ih=>exact λr=>bY r λv q _ t=>congrArg (· + 1) (ih t)
theorem RelL.get{xs:List V}:∀{vs:List Value},RelL G X h xs vs->∀{i:Nat}{x:V},xs[i]? = some x->∃v,vs[i]? = some v/\Rel G X h x v:=by
 induction xs with
 |nil=>intro vs r i x e;cases (show none=some x from e)
 |cons y ys ih=>
  intro vs r i x e
  exact bY r λv q a t=>match i,e with
  |0,e=>⟨v,rfl,LM e▸a⟩
  |i+1,e=>ih t e
theorem RelL.append{xs ys:List V}{us:List Value}:∀{vs:List Value},RelL G X h xs vs->RelL G X h ys us->RelL G X h (xs++ys) (vs++us):=by
 induction xs with
 |nil=>exact λr t=>(show _=[]from r)▸t
 |cons x xs ih=>exact λr t=>bY r λv q a b=>⟨v,q++us,rfl,a,ih b t⟩
theorem RelL.one{x:V}{v:Value}(r:Rel G X h x v):RelL G X h [x] [v]:=⟨v,[],rfl,r,rfl⟩
theorem RelL.set{y:V}{u:Value}(ry:Rel G X h y u){xs:List V}:∀{vs:List Value}(i:Nat),RelL G X h xs vs->RelL G X h (xs.set i y) (vs.set i u):=by
 induction xs with
 |nil=>exact λi r=>(show _=[]from r)▸rfl
 |cons x xs ih=>exact λi r=>bY r λv q a b=>match i with
  |0=>⟨u,q,rfl,ry,b⟩
  |i+1=>⟨v,q.set i u,rfl,a,ih i b⟩
theorem yK{p q:Option Bool}{r:Bool}{P:Prop}(h:oA p q=some r)(k:∀a b,p=some a->q=some b->(a&&b)=r->P):P:=by
 cases p<;>cases q<;>first|(cases h;done)|exact k _ _ rfl rfl (LM h)
theorem lK{f:V->V->Option Bool}(hf:∀x y v b,Rel G X h x v->Rel G X h y v->f x y=some b->b=true){xs:List V} :
  ∀{ys:List V}{vs:List Value}{b:Bool},RelL G X h xs vs->RelL G X h ys vs->fU f xs ys=some b->b=true:=by
 induction xs with
 |nil=>exact λ_ _ e=>(LM e).symm
 |cons x xs ih=>
  intro ys vs b r;refine bY r λv q a r' t e=>?_
  cases ys with
  |nil=>cases (show v::q=[]from t)
  |cons y ys=>
   exact(show ∃v' q',v::q=v'::q'/\Rel G X h y v'/\RelL G X h ys q' from t).elim λv' w=>w.elim λq' w=>
    yK (show oA (f x y) (fU f xs ys)=some b from e) λc d hc hd hb=>by
     cases w.1;rw[<-hb,hf x y v c a w.2.1 hc,ih r' w.2.2 hd];rfl
theorem RelD.length{xs:List (List Nat × V)}:∀{es:List DictEntry},RelD G X h xs es->es.length=xs.length:=by
 induction xs with
 |nil=>exact λr=>congrArg List.length r
 |cons p xs ih=>exact λr=>eW r λe q _ _ _ t=>congrArg (· + 1) (ih t)
theorem KeyIs.inj{P:Params}{a b:List Nat}{e:DictEntry}(x:KeyIs P a e)(y:KeyIs P b e):a=b:=
 x.1.elim λt h1=>y.1.elim λu h2=>congrArg Array.toList (Str.mk.inj (Value.str.inj (h1.symm.trans h2)).1)
theorem vn{k l:List Nat}{v:V}{r:List (List Nat × V)}(h:k≠l):fy ((k,v)::r) l=fy r l:=if_neg h
theorem tO{f:V->V->Option Bool}{k:List Nat}{v:V}{b:List (List Nat × V)}:∀{a:List (List Nat × V)},k∉a.map (·.1)->fV f a ((k,v)::b)=fV f a b:=by
 intro a
 induction a with
 |nil=>
  intro _;exact rfl
 |cons p a ih=>
  intro h;have e1:fy ((k,v)::b) p.1=fy b p.1:=vn λe=>h (LI.mpr (.inl e));show @Option.casesOn _ (λ_=>Option Bool) (fy ((k,v)::b) p.1) (some false) (λv'=>oA (f p.2 v') (fV f a ((k,v)::b))) = @Option.casesOn _ (λ_=>Option Bool) (fy b p.1) (some false) λv'=>oA (f p.2 v') (fV f a b);rw[e1,ih λw=>h (LK _ w)]
theorem tP{f:V->V->Option Bool}(hf:∀x y v b,Rel G X h x v->Rel G X h y v->f x y=some b->b=true){xs:List (List Nat × V)} :
  ∀{ys:List (List Nat × V)}{es:List DictEntry}{b:Bool},(xs.map (·.1)).Nodup->RelD G X h xs es->RelD G X h ys es->fV f xs ys=some b->b=true:=by
 induction xs with
 |nil=>exact λ_ _ _ e=>(LM e).symm
 |cons p xs ih=>
  intro ys es b hn r;refine eW r λd q k1 _ rx r' t e=>?_
  cases ys with
  |nil=>cases (show d::q=[]from t)
  |cons o ys=>
   exact(show ∃e' q',d::q=e'::q'/\KeyIs G.w.params o.1 e'/\_/\Rel G X h o.2 e'.val/\RelD G X h ys q' from t).elim λe' w=>w.elim λq' w=>by
    cases w.1;have hk:=k1.inj w.2.1;have hn:=Mp.mp hn;have e : @Option.casesOn _ (λ_=>Option Bool) (fy ((o.1,o.2)::ys) p.1) (some false) (λv'=>oA (f p.2 v') (fV f xs ((o.1,o.2)::ys)))=some b:=e;rw[show fy ((o.1,o.2)::ys) p.1=some o.2 from if_pos hk.symm,<-hk,tO hn.1]at e;exact yK e λc d hc hd hb=>by rw[<-hb,hf _ _ _ c rx w.2.2.2.1 hc,ih hn.2 r' w.2.2.2.2 hd];rfl
theorem yL{a:Addr}{vs us:List Value}{c n m:Nat}(g:h.get? a=some (cS vs n))(e:Value.ref a = .ref c)(g':h.get? c=some (cS us m)):vs=us:=by
 cases e;rw[g]at g';cases g';rfl
theorem yM{a:Addr}{vs us:List Value}{c n m:Nat}(g:h.get? a=some (bD vs n))(e:Value.ref a = .ref c)(g':h.get? c=some (bD us m)):vs=us:=by
 cases e;rw[g]at g';cases g';rfl
theorem yN{a:Addr}{vs us:List DictEntry}{c n m:Nat}(g:h.get? a=some (dictOf vs n))(e:Value.ref a = .ref c)(g':h.get? c=some (dictOf us m)):vs=us:=by
 cases e;rw[g]at g';cases g';rfl
theorem aF{x:V}{h:Heap}{X:Av}{v:Value}(r:Rel G X h x v):TRel G ρ X h x v:=by
 cases x with
 |obj i=>exact False.elim r
 |_=>exact r
theorem nn{α:Type}{x:α}{P:Prop}(w:none=some x):P:=(by cases w)
theorem lL(n:Nat):∀(x y:V)(v:Value)(b:Bool),Rel G X h x v->Rel G X h y v->bF n x y=some b->b=true:=by
 induction n with
 |zero=>exact λ_ _ _ _ _ _ e=>(by cases (show none=some _ from e))
 |succ n ih=>
  intro x y v b r t e;have ty:TRel G [] X h y v:=aF t
  cases x with
  |none=>
   have e:y.onN (some true) (y.onY (λ_=>some false) none)=some b:=e;cases (show v = .none from r);exact on (P:=λv o=>v = .none->o=some b->b=true) ty (jf (d:=none) (P:=λv o=>v = .none->o=some b->b=true) ty (λ_=>nn) λ_ _ _ q=>(by cases q)) (λ_ w=>(LM w).symm) rfl e
  |bool a=>
   have e:y.onB (λb=>some (a==b)) none=some b:=e;cases (show v = .bool a from r);exact tN (d:=none) (P:=λv o=>v = .bool a->o=some b->b=true) ty (λ_=>nn) (λc q w=>(LM w).symm.trans (beq_iff_eq.mpr (Value.bool.inj q).symm)) rfl e
  |int a=>
   have e:y.onI (λb=>some (a==b)) none=some b:=e;exact(show ∃t,v = .int a t from r).elim λu hu=>cg (d:=none) (P:=λv o=>v = .int a u->o=some b->b=true) ty (λ_=>nn) (λc _ q w=>(LM w).symm.trans (beq_iff_eq.mpr (Value.int.inj q).1.symm)) hu e
  |str a=>
   have e:y.onS (λb=>some (decide (a=b))) none=some b:=e;exact(show _/\∃t,v = .str ⟨a.toArray⟩ t from r).2.elim λu hu=>jN (d:=none) (P:=λv o=>v = .str ⟨a.toArray⟩ u->o=some b->b=true) ty (λ_=>nn) (λc _ _ q w=>(LM w).symm.trans (decide_eq_true (congrArg Array.toList (Str.mk.inj (Value.str.inj q).1)).symm)) hu e
  |byt a=>
   have e:y.onY (λb=>some (decide (a=b))) (y.onN (some false) none)=some b:=e;exact(show _/\∃t,v = .bytes a.toArray t from r).2.elim λu hu=>jf (P:=λv o=>v = .bytes a.toArray u->o=some b->b=true) ty (on (d:=none) (P:=λv o=>v = .bytes a.toArray u->o=some b->b=true) ty (λ_=>nn) λq _=>(by cases q)) (λc _ _ q w=>(LM w).symm.trans (decide_eq_true (congrArg Array.toList (Value.bytes.inj q).1).symm)) hu e
  |tup xs=>
   have e:y.onT (λb=>if xs.length=b.length then fU (bF n) xs b else none) none=some b:=e
   exact(show _/\∃a vs m,v = .ref a/\¬X a/\h.get? a=some (cS vs m)/\RelL G X h xs vs from r).2.elim λa w=>w.elim λvs w=>w.elim λm w=>
    wT (d:=none) (P:=λv o=>v = .ref a->o=some b->b=true) ty (λ_=>nn) (λys c us k _ _ g' l' q e=>by
     have:=yL w.2.2.1 q.symm g';subst this
     by_cases hz:xs.length=ys.length
     ·exact lK ih w.2.2.2 l' ((if_pos hz).symm.trans e)
     ·exact(by cases ((if_neg hz).symm.trans e))) w.1 e
  |lst xs=>
   have e:y.onL (λb=>if xs.length=b.length then fU (bF n) xs b else some false) none=some b:=e
   exact(show _/\∃a vs m,v = .ref a/\¬X a/\h.get? a=some (bD vs m)/\RelL G X h xs vs from r).2.elim λa w=>w.elim λvs w=>w.elim λm w=>
    wL (d:=none) (P:=λv o=>v = .ref a->o=some b->b=true) ty (λ_=>nn) (λys c us k _ _ g' l' q e=>by
     have:=yM w.2.2.1 q.symm g';subst this
     by_cases hz:xs.length=ys.length
     ·exact lK ih w.2.2.2 l' ((if_pos hz).symm.trans e)
     ·exact absurd ((RelL.length w.2.2.2).symm.trans (RelL.length l')) hz) w.1 e
  |dct xs=>
   have e:y.onD (λb=>if xs.length=b.length then fV (bF n) xs b else some false) none=some b:=e
   exact(show(_/\(xs.map (·.1)).Nodup)/\∃a es m,v = .ref a/\(a==sysModules)=false/\¬X a/\h.get? a=some (dictOf es m)/\RelD G X h xs es from r).2.elim λa w=>w.elim λvs w=>w.elim λm w=>
    wD (d:=none) (P:=λv o=>v = .ref a->o=some b->b=true) ty (λ_=>nn) (λys c us k _ _ _ _ g' l' q e=>by
     have:=yN w.2.2.2.1 q.symm g';subst this
     by_cases hz:xs.length=ys.length
     ·exact tP ih (show(_/\_)/\_ from r).1.2 w.2.2.2.2 l' ((if_pos hz).symm.trans e)
     ·exact absurd ((RelD.length w.2.2.2.2).symm.trans (RelD.length l')) hz) w.1 e
  |_=>exact(by cases (show none=some b from e))
end
end J.Internal
namespace J.Internal
variable{G:Cx}
theorem mC(k l:List Nat):(({cps:=k.toArray}:PySem.Str)==({cps:=l.toArray}:PySem.Str))=decide (k=l):=
 if h:k=l then by subst h;rw[beq_self_eq_true,decide_eq_true rfl]
 else(beq_eq_false_iff_ne.mpr λe=>h (congrArg Array.toList (Str.mk.inj e))).trans (decide_eq_false h).symm
theorem tQ{X:Av}{h:Heap}{l:List Nat}{xs:List (List Nat × V)}:∀{es:List DictEntry}{P:Option V->Option Nat->Prop},RelD G X h xs es->P none none->
  (∀j x e t,es[j]? = some e->e.key = .str ⟨l.toArray⟩ t->Rel G X h x e.val->P (some x) (some j))->P (fy xs l) (es.findIdx? λe=>e.key.isStr ⟨l.toArray⟩):=by
 induction xs with
 |nil=>intro es P r h0 _;cases (show es=[]from r);exact h0
 |cons p xs ih=>
  intro es P r h0 h1;revert h1;refine eW r λe q k1 _ rx r' h1=>k1.1.elim λt ht=>?_;have e1:e.key.isStr ⟨l.toArray⟩ = decide (p.1=l):=by rw[ht];exact mC p.1 l
  rw[List.findIdx?_cons,e1]
  by_cases hk:p.1=l
  ·rw[show fy (p::xs) l=some p.2 from if_pos hk,decide_eq_true hk];exact h1 0 p.2 e t rfl (hk▸ht) rx
  ·rw[show fy (p::xs) l=fy xs l from if_neg hk,decide_eq_false hk];exact ih (P:=λo i=>P o (i.map (· + 1))) r' h0 λj x e t=>h1 (j+1) x e t
theorem tS{X:Av}{h:Heap}{xs:List (List Nat × V)}:∀{es:List DictEntry},RelD G X h xs es->es.all (λe=>isExactStrKey e.key)=true:=by
 induction xs with
 |nil=>intro es r;cases (show es=[]from r);rfl
 |cons p xs ih=>intro es r;exact eW r λe q k1 _ _ r'=>k1.1.elim λt ht=>LD.mpr ⟨(congrArg isExactStrKey ht).trans rfl,ih r'⟩
end J.Internal
namespace J.Internal
noncomputable section
def dY(G:Cx)(prog:PySem.Program)(w:World)(A:Around)(E:Value->Shared->Prop)(s:Shared)(X:Av)(d:Addr)(xs:List (List Nat × V))(es:List DictEntry)(n:Nat)(l:List Nat)(t:Tok)(hh:Int)(Q:Option Nat->Shared->Prop):Prop:=
 ∀(ho:s.heap.get? d=some (dictOf es n))(r:RelD G X s.heap xs es)(h0:fy xs l=none->Q none s)(h1:∀j x e,fy xs l=some x->es[j]? = some e->Rel G X s.heap x e.val->Q (some j) s),wpAny (model prog w) A (dictFind d (.str ⟨l.toArray⟩ t) hh) Q E s
namespace Kfind_str
def zz:=ep (uY dY)
def w:=zz.2.2.1
def s:=zz.2.2.2.2.2.1
def es:=zz.2.2.2.2.2.2.2.2.2.1
def l:=zz.2.2.2.2.2.2.2.2.2.2.2.1
theorem TT:dY zz.1 zz.2.1 w zz.2.2.2.1 zz.2.2.2.2.1 s zz.2.2.2.2.2.2.1 zz.2.2.2.2.2.2.2.1 zz.2.2.2.2.2.2.2.2.1 es zz.2.2.2.2.2.2.2.2.2.2.1 l zz.2.2.2.2.2.2.2.2.2.2.2.2.1 zz.2.2.2.2.2.2.2.2.2.2.2.2.2.1 zz.2.2.2.2.2.2.2.2.2.2.2.2.2.2:=by
 intro ho r h0 h1;refine wpAny_holding (wpAny_bind (wpAny_dictEntries ho rfl ?_));show wpAny _ _ (if (es.toArray.all λe=>isExactStrKey e.key)=true then _ else _) _ _ _;rw[if_pos (by rw[List.all_toArray];exact tS r)]
 delta foundByValue
 rw[List.findIdx?_toArray];rcases tQ (l:=l) (P:=λo i=>(o=none/\i=none)\/∃j x e u,o=some x/\i=some j/\es[j]? = some e/\e.key = .str ⟨l.toArray⟩ u/\Rel zz.1 zz.2.2.2.2.2.2.1 s.heap x e.val) r (.inl ⟨rfl,rfl⟩) λj x e u a b c=>.inr ⟨j,x,e,u,rfl,rfl,a,b,c⟩with ⟨e0,e1⟩|⟨j,x,e,u,e0,e1,hj,hk,rx⟩
 ·rw[e1];exact wpAny_pure (h0 e0)
 rw[e1];dsimp only;rw[List.getElem?_toArray,hj];dsimp only;rw[hk];refine wpAny_bind (wpAny_dictEpoch ho rfl (wpAny_bind (SeqAt.EqAt.str_str _ u _ zz.2.2.2.2.2.2.2.2.2.2.2.2.1 zz.2.1 w zz.2.2.2.2.1 _ (wpAny_bind (wpAny_dictEpoch ho rfl ?_)))));rw[if_neg (λw=>bne_iff_ne.mp w rfl),if_pos (beq_self_eq_true _)];exact wpAny_bind (wpAny_rule (wpAny_pure (h1 j x e e0 hj rx)))
end Kfind_str
end
theorem vo{G prog w A E s X d xs es n l t hh Q}:dY G prog w A E s X d xs es n l t hh Q:=cN (p:=uY dY) Kfind_str.TT (G,prog,w,A,E,s,X,d,xs,es,n,l,t,hh,Q)
variable{G:Cx}
theorem ot{Mo:Model}{A:Around}{s:Shared}{β:Type}{n:Nat}{f:Nat->β->Sem (ForInStep β)}{I:Nat->β->Prop}{Q:β->Shared->Prop}{E:Value->Shared->Prop}{c:β}
  (turn:∀i c,i<n->I i c->wpAny Mo A (f i c) (λr s'=>s'=s/\match r with
   |.yield c'=>I (i+1) c'
   |.done c'=>Q c' s) E s) (fin:∀c,I n c->Q c s) (h:I 0 c):wpAny Mo A (forIn [0:n] c f) Q E s:=by
 rw[Std.Legacy.Range.forIn_eq_forIn_range']
 have go:∀k i c,i+k=n->I i c->wpAny Mo A (forIn (List.range' i k 1) c f) Q E s:=by
  intro k
  induction k with
  |zero=>intro i c e h;rw[List.range'_zero,List.forIn_nil];exact wpAny_pure (fin c (e▸h))
  |succ k ih=>
   intro i c e h;rw[List.range'_succ,List.forIn_cons];refine wpAny_bind (wpAny_mono (turn i c (e▸Nat.lt_add_of_pos_right (Ms k)) h) (λr s' w=>?_) λ_ _ w=>w);cases w.1
   cases r with
   |done c'=>exact wpAny_pure w.2
   |yield c'=>exact ih (i+1) c' ((Nat.succ_add_eq_add_succ i k).trans e) w.2
 exact go _ 0 c (by show 0+([0:n]:Std.Legacy.Range).size=n;rw[Nat.zero_add];show(n - 0+1 - 1) / 1=n;rw[Nat.div_one];rfl) h
section
variable{A:Around}{s:Shared}
theorem qf{X:Av}{a b:Addr}{es fs:List DictEntry}{n m:Nat}{xs ys:List (List Nat × V)}{f:V->V->Option Bool}{r:Bool}{prog:PySem.Program}{w:World}{E:Value->Shared->Prop}{Q:Bool->Shared->Prop}{id:String}
  (ha:(a==sysModules)=false) (hb:(b==sysModules)=false) (oa:s.heap.get? a=some (dictOf es n)) (ob:s.heap.get? b=some (dictOf fs m)) (ra:RelD G X s.heap xs es) (rb:RelD G X s.heap ys fs)
  (hz:xs.length=ys.length) (hf:∀x y v u c,Rel G X s.heap x v->Rel G X s.heap y u->f x y=some c->SeqAt.EqAt A s v u c) (hr:fV f xs ys=some r) (h:Q r s) :
  wpAny (model prog w) A (Builtin.Dict.samePairs id a b) Q E s:=by
 unfold Builtin.Dict.samePairs Builtin.Dict.showsAll;rw[if_neg (ne_true_of_eq_false ha),if_neg (ne_true_of_eq_false hb)];refine wpAny_bind (wpAny_pure (wpAny_bind (wpAny_pure (wpAny_bind (wpAny_dictEntries oa rfl (wpAny_bind (wpAny_dictEntries ob rfl ?_)))))));rw[if_neg (show ¬ (es.toArray.size != fs.toArray.size)=true from λw=>bne_iff_ne.mp w ((RelD.length ra).trans (hz.trans (RelD.length rb).symm)))];refine wpAny_bind (wpAny_dictEpoch oa rfl (wpAny_bind (ot (n:=es.length) (I:=λi q=>q=(none,())/\RelD G X s.heap (xs.drop i) (es.drop i)/\fV f (xs.drop i) ys=some r) ?_ ?_ ⟨rfl,ra,hr⟩)))
 ·intro i q hi ⟨hq,hrel,hp⟩;cases hq;have hlx:i<xs.length:=RelD.length ra▸hi;rw[List.drop_eq_getElem_cons hlx]at hp;rw[List.drop_eq_getElem_cons hi,List.drop_eq_getElem_cons hlx]at hrel;refine wpAny_bind (wpAny_dictEntries oa rfl ?_);rw[List.getElem?_toArray,LH hi];dsimp only;revert hrel hp;generalize es[i]=e;generalize xs[i]=p;intro hrel hp;have⟨e',q',he,k1,_,rv,hrel'⟩ : ∃e' q',e::es.drop (i+1)=e'::q'/\KeyIs G.w.params p.1 e'/\_/\Rel G X s.heap p.2 e'.val/\RelD G X s.heap (xs.drop (i+1)) q':=hrel;cases he;obtain⟨t,hkey⟩:=k1.1;rw[hkey];have hp : @Option.casesOn _ (λ_=>Option Bool) (fy ys p.1) (some false) (λv'=>oA (f p.2 v') (fV f (xs.drop (i+1)) ys))=some r:=hp;refine wpAny_bind (wpAny_holding (wpAny_bind (vo ob rb (λh1=>?_) λj y e' h1 h3 h4=>?_)))
  ·rw[h1]at hp;cases hp;exact wpAny_pure (wpAny_pure ⟨rfl,wpAny_pure h⟩)
  ·rw[h1]at hp;refine yK hp λc d hc hd hb=>wpAny_bind (wpAny_dictEntries ob rfl ?_);rw[List.getElem?_toArray,h3];refine wpAny_holding (hf p.2 y _ _ c rv h4 hc prog w _ _ ?_)
   cases c with
   |false=>cases hb;exact wpAny_pure ⟨rfl,wpAny_pure h⟩
   |true=>
    refine wpAny_bind (wpAny_dictEpoch oa rfl ?_);rw[if_neg λw=>bne_iff_ne.mp w rfl];exact wpAny_pure ⟨rfl,rfl,hrel',hd.trans (congrArg some hb)⟩
 ·intro q ⟨hq,_,hp⟩;cases hq;rw[List.drop_eq_nil_of_le (Ma (RelD.length ra).symm)]at hp;cases hp;exact wpAny_pure h
theorem r0{a b:Addr}{es fs:List DictEntry}{n m:Nat}{r:Bool}(oa:s.heap.get? a=some (dictOf es n))(ob:s.heap.get? b=some (dictOf fs m))(hu:A.units<cLine)
  (h:∀{prog:PySem.Program}{w:World}{Q:Bool->Shared->Prop}{E:Value->Shared->Prop}{id:String},Q r s->wpAny (model prog w) A.in1 (Builtin.Dict.samePairs id a b) Q E s):SeqAt.RcAt A s (.ref a) (.ref b) r:=λprog w E Q q=>by
 refine wpAny_richCompare_same_room (op:=.Eq) (T := "dict") ⟨_,oa,rfl⟩ ⟨_,ob,rfl⟩ PySem.F.slot_dict_eq (wpAny_call_entry PySem.F.slot_dict_eq ⟨_,oa,rfl⟩ PySem.F.entry_dict_eq ?_ (PySem.F.args_dict_eq_2 _ _)) hu;show wpAny _ _ (Builtin.Dict.dictSlotArgs "__eq__" ⟨[.ref a,.ref b],[]⟩>>=_) _ _ s;refine wpAny_bind ?_
 delta Builtin.Dict.dictSlotArgs
 refine wpAny_bind (wpAny_notOrdered_dict ⟨_,oa,rfl⟩ (wpAny_pure (wpAny_bind (wpAny_isInstance (T := "dict") ⟨_,ob,rfl⟩ PySem.F.sub_dict_dict ?_))));rw[if_neg (show ¬ (!true)=true from L8)];refine wpAny_bind (wpAny_pure (wpAny_bind (wpAny_pure (wpAny_bind (h (wpAny_pure ⟨_,rfl,(λx=>(by cases x)),?_⟩))))));cases r<;>exact q
theorem vq{X:Av}{a b:Addr}{es fs:List DictEntry}{n m:Nat}{xs ys:List (List Nat × V)}{f:V->V->Option Bool}{r:Bool}
  (ha:(a==sysModules)=false) (hb:(b==sysModules)=false) (oa:s.heap.get? a=some (dictOf es n)) (ob:s.heap.get? b=some (dictOf fs m)) (ra:RelD G X s.heap xs es) (rb:RelD G X s.heap ys fs)
  (hz:xs.length=ys.length) (hu:A.units<cLine) (hf:∀x y v u c,Rel G X s.heap x v->Rel G X s.heap y u->f x y=some c->SeqAt.EqAt A.in1 s v u c) (hr:fV f xs ys=some r):SeqAt.RcAt A s (.ref a) (.ref b) r:=
 r0 oa ob hu (qf ha hb oa ob ra rb hz hf hr)
theorem jO{a b:Addr}{es fs:List DictEntry}{n m:Nat}
  (ha:(a==sysModules)=false) (hb:(b==sysModules)=false) (oa:s.heap.get? a=some (dictOf es n)) (ob:s.heap.get? b=some (dictOf fs m))
  (hz:es.length≠fs.length) (hu:A.units<cLine):SeqAt.RcAt A s (.ref a) (.ref b) false:=r0 oa ob hu λh=>by
 unfold Builtin.Dict.samePairs Builtin.Dict.showsAll;rw[if_neg (ne_true_of_eq_false ha),if_neg (ne_true_of_eq_false hb)];refine wpAny_bind (wpAny_pure (wpAny_bind (wpAny_pure (wpAny_bind (wpAny_dictEntries oa rfl (wpAny_bind (wpAny_dictEntries ob rfl ?_)))))));rw[if_pos (show(es.toArray.size != fs.toArray.size)=true from bne_iff_ne.mpr hz)];exact wpAny_bind (wpAny_rule (wpAny_pure h))
end
variable{α β γ δ:Type}{F M:Av}{A:Around}{ρ ρ':List (Addr × Addr)}{H H':Hp}{s s':Shared}{Z:Option (Option Addr)->Prop}
theorem qg{h:Heap}{a:Addr}{vs:List Value}{n:Nat}(e:h.get? a=some (cS vs n)):h.IsTuple a vs.toArray:=⟨_,e,rfl,n,rfl⟩
theorem aY{h:Heap}{a:Addr}{vs:List Value}{n:Nat}(e:h.get? a=some (bD vs n)):h.IsList a vs.toArray:=⟨_,e,rfl,n,rfl⟩
theorem vr(b c:List UInt8)(t u:Tok):SeqAt.RcAt A s (.bytes b.toArray t) (.bytes c.toArray u) (decide (b=c)):=λprog w E Q h=>
 eq_bytes (by
  show Q (.bool (b==c)) s;have:(b==c)=decide (b=c):=by by_cases e:b=c<;>simp[e]
  rw[this];exact h)
theorem cO(b:Array UInt8)(u:Tok):Gives (Builtin.«bytes.__eq__» ⟨[.bytes b u,.none],[]⟩) (.val .notImplemented):=by
 refine .of_wp λM A E s Q hq=>?_;show wpAny M A (isInstance .none (.type "bytes")>>=λr=>_) _ E s;refine wpAny_bind (wpAny_isInstance (T := "NoneType") rfl PySem.F.sub_NoneType_bytes ?_);exact wpAny_bind (m:=rule _) (wpAny_rule (wpAny_bind (m:=ret .notImplemented) (wpAny_pure (wpAny_pure ⟨_,rfl,hq⟩))))
theorem lv(b:List UInt8)(u:Tok):SeqAt.RcAt A s .none (.bytes b.toArray u) false:=λprog w E Q h=>
 SeqAt.rc_eq_decline_or (k:=false) (Ta := "NoneType") (Tb := "bytes") rfl rfl (by decide) PySem.F.sub_bytes_NoneType PySem.F.slot_NoneType_eq FB.slot_bytes_eq
  (λ_ hq=>call_gives PySem.F.slot_NoneType_eq rfl PySem.F.entry_NoneType_eq (PySem.F.args_NoneType_eq_2 _ _) (m:=.val .notImplemented) (by exact .of_eq rfl) hq)
  (λ_ hq=>call_gives FB.slot_bytes_eq rfl FB.entry_bytes_eq (FB.args_bytes_eq_2 _ _) (cO _ _) hq)
  (λ_ hq=>wpAny_of_eq (rfl:isSame .none (.bytes b.toArray u)=pure false) hq) (.inl rfl) h
theorem fY(b:List UInt8)(u:Tok):SeqAt.RcAt A s (.bytes b.toArray u) .none false:=λprog w E Q h=>
 SeqAt.rc_eq_decline_or (k:=false) (Ta := "bytes") (Tb := "NoneType") rfl rfl (by decide) PySem.F.sub_NoneType_bytes FB.slot_bytes_eq PySem.F.slot_NoneType_eq
  (λ_ hq=>call_gives FB.slot_bytes_eq rfl FB.entry_bytes_eq (FB.args_bytes_eq_2 _ _) (cO _ _) hq)
  (λ_ hq=>call_gives PySem.F.slot_NoneType_eq rfl PySem.F.entry_NoneType_eq (PySem.F.args_NoneType_eq_2 _ _) (m:=.val .notImplemented) (by exact .of_eq rfl) hq)
  (λ_ hq=>wpAny_of_eq (rfl:isSame (.bytes b.toArray u) .none=pure false) hq) (.inl rfl) h
theorem EqAt.of_rc{v u:Value}{b:Bool}(hn:v≠u)(hv:∀x t,v≠.float x t)(h:SeqAt.RcAt A s v u b):SeqAt.EqAt A s v u b:=λprog w E Q hq=>by
 unfold eqBool;refine wpAny_holding ?_;refine wpAny_ite_split (λhab=>absurd (eq_of_beq hab) hn) (λ_=>?_);have key:wpAny (model prog w) A (richCompare .Eq v u>>=truthOfDropped) Q E s:=wpAny_bind (h prog w E _ (wpAny_truthy_bool hq))
 cases v with
 |float x t=>exact absurd rfl (hv x t)
 |_=>exact key
theorem ou{v u:Value}{b:Bool}(hv:∀x t,v≠.float x t)(hs:v=u->b=true)(h:SeqAt.RcAt A s v u b):SeqAt.EqAt A s v u b:=by
 by_cases e:v=u
 ·subst e;rw[hs rfl];exact SeqAt.EqAt.same _
 ·exact EqAt.of_rc e hv h
noncomputable def BZ(f:V->V->Option Bool)(xs ys:List V)(j:Nat):Bool:=(f (xs.getD j .none) (ys.getD j .none)).getD false
theorem gJ{f:V->V->Option Bool}{xs:List V}:∀{ys:List V}{b:Bool},xs.length=ys.length->fU f xs ys=some b->
  (∀j,j<xs.length->∃c,f (xs.getD j .none) (ys.getD j .none)=some c)/\b=(List.range xs.length).all (BZ f xs ys):=by
 induction xs with
 |nil=>intro ys b _ e;exact⟨λj h=>absurd h (Mw j),(LM e).symm⟩
 |cons x xs ih=>
  intro ys b h e
  cases ys with
  |nil=>cases h
  |cons y ys=>
   refine yK (show oA (f x y) (fU f xs ys)=some b from e) λc d hc hd hb=>?_;have hi:=ih (Nat.succ.inj h) hd
   refine⟨λj q=>match j,q with
    |0,_=>⟨c,hc⟩
    |j+1,q=>hi.1 j (Mn q),?_⟩
   rw[<-hb,hi.2,List.length_cons,List.range_succ_eq_map,List.all_cons,List.all_map];exact congr (congrArg and (show c=BZ f (x::xs) (y::ys) 0 from(congrArg (·.getD false) hc).symm)) rfl
theorem jP{X:Av}{h:Heap}{xs:List V}{vs:List Value}{j:Nat}(l:RelL G X h xs vs)(q:j<vs.toArray.size):j<xs.length/\Rel G X h (xs.getD j .none) (vs.toArray[j]):=by
 have p:j<xs.length:=(RelL.length l)▸q;obtain⟨v,e,r⟩:=RelL.get l (LH p);refine⟨p,?_⟩;rw[List.getD_eq_getElem?_getD,LH p];exact(show vs.toArray[j]=v from LM ((LH q).symm.trans e))▸r
theorem jQ{X:Av}{f:V->V->Option Bool}{xs ys:List V}{vs us:List Value}{b:Bool}(hz:xs.length=ys.length)(e:fU f xs ys=some b)(l:RelL G X s.heap xs vs)(l':RelL G X s.heap ys us)
  (hin:∀x y v u c,Rel G X s.heap x v->Rel G X s.heap y u->f x y=some c->SeqAt.EqAt A s v u c) (j:Nat) (q1:j<vs.toArray.size) (q2:j<us.toArray.size):SeqAt.EqAt A s vs.toArray[j] us.toArray[j] (BZ f xs ys j):=by
 obtain⟨c,hc⟩:=(gJ hz e).1 j (jP l q1).1;rw[show BZ f xs ys j=c from congrArg (·.getD false) hc];exact hin _ _ _ _ c (jP l q1).2 (jP l' q2).2 hc
theorem vt{X:Av}{h:Heap}{x:V}{v:Value}(r:Rel G X h x v):∀z t,v≠.float z t:=
 oq (P:=λv=>∀z t,v≠.float z t) (aF (ρ:=[]) r) (λ_ _ w=>(by cases w)) (λ_ _ _ w=>(by cases w)) (λ_ _ _ _ w=>(by cases w)) (λ_ _ _ _ w=>(by cases w)) (λ_ _ _ _ w=>(by cases w)) λ_ _ _ w=>(by cases w)
theorem yP{n:Nat}{X:Av}{x y:V}{v u:Value}{b:Bool}(r:Rel G X s.heap x v)(t:Rel G X s.heap y u)(e:bF (n+1) x y=some b)(hu0:A.units<cLine)
  (hin:∀x y v u c,Rel G X s.heap x v->Rel G X s.heap y u->bF n x y=some c->SeqAt.EqAt A.in1 s v u c):SeqAt.RcAt A s v u b:=by
 have ty:TRel G [] X s.heap y u:=aF t
 cases x with
 |none=>
  cases (show v = .none from r);have e:y.onN (some true) (y.onY (λ_=>some false) none)=some b:=e;exact on (P:=λu o=>o=some b->SeqAt.RcAt A s .none u b) ty (jf (d:=none) (P:=λu o=>o=some b->SeqAt.RcAt A s .none u b) ty nn λl t _ w=>LM w▸lv l t) (λw=>LM w▸SeqAt.RcAt.none_none) e
 |bool a=>
  cases (show v = .bool a from r);have e:y.onB (λb=>some (a==b)) none=some b:=e;exact tN (d:=none) (P:=λu o=>o=some b->SeqAt.RcAt A s (.bool a) u b) ty nn (λc w=>LM w▸SeqAt.RcAt.bool_bool _ _) e
 |int a=>
  have e:y.onI (λb=>some (a==b)) none=some b:=e;exact(show ∃t,v = .int a t from r).elim λt hv=>hv▸cg (d:=none) (P:=λu o=>o=some b->SeqAt.RcAt A s (.int a t) u b) ty nn (λc _ w=>LM w▸SeqAt.RcAt.int_int _ _ _ _) e
 |str a=>
  have e:y.onS (λb=>some (decide (a=b))) none=some b:=e;exact(show _/\∃t,v = .str ⟨a.toArray⟩ t from r).2.elim λt hv=>hv▸jN (d:=none) (P:=λu o=>o=some b->SeqAt.RcAt A s (.str ⟨a.toArray⟩ t) u b) ty nn (λc _ _ w=>LM w▸mC a c▸SeqAt.RcAt.str_str _ _ _ _) e
 |byt a=>
  have e:y.onY (λb=>some (decide (a=b))) (y.onN (some false) none)=some b:=e;exact(show _/\∃t,v = .bytes a.toArray t from r).2.elim λt hv=>hv▸jf (P:=λu o=>o=some b->SeqAt.RcAt A s (.bytes a.toArray t) u b) ty (on (d:=none) (P:=λu o=>o=some b->SeqAt.RcAt A s (.bytes a.toArray t) u b) ty nn λw=>LM w▸fY a t) (λc _ _ w=>LM w▸vr a c _ _) e
 |tup xs=>
  have e:y.onT (λb=>if xs.length=b.length then fU (bF n) xs b else none) none=some b:=e;exact(show _/\∃a vs m,v = .ref a/\¬X a/\s.heap.get? a=some (cS vs m)/\RelL G X s.heap xs vs from r).2.elim λa w=>w.elim λvs w=>w.elim λm w=>w.1▸
   wT (d:=none) (P:=λu o=>o=some b->SeqAt.RcAt A s (.ref a) u b) ty nn (λys c us k _ _ g' l' e=>by
    by_cases hz:xs.length=ys.length
    ·have e:=(if_pos hz).symm.trans e;have z1:vs.toArray.size=xs.length:=RelL.length w.2.2.2;have z2:us.toArray.size=xs.length:=(RelL.length l').trans hz.symm;have key:=SeqAt.RcAt.tuples (A:=A) (e:=BZ (bF n) xs ys) (qg w.2.2.1) (qg g') hu0 λj=>jQ hz e w.2.2.2 l' hin j;rw[z1,z2,Nat.min_self,<-(gJ hz e).2,beq_self_eq_true,Bool.and_true]at key;exact key
    ·exact nn ((if_neg hz).symm.trans e)) e
 |lst xs=>
  have e:y.onL (λb=>if xs.length=b.length then fU (bF n) xs b else some false) none=some b:=e;exact(show _/\∃a vs m,v = .ref a/\¬X a/\s.heap.get? a=some (bD vs m)/\RelL G X s.heap xs vs from r).2.elim λa w=>w.elim λvs w=>w.elim λm w=>w.1▸
   wL (d:=none) (P:=λu o=>o=some b->SeqAt.RcAt A s (.ref a) u b) ty nn (λys c us k _ _ g' l' e=>by
    have z1:vs.toArray.size=xs.length:=RelL.length w.2.2.2;have z2:us.toArray.size=ys.length:=RelL.length l'
    by_cases hz:xs.length=ys.length
    ·have e:=(if_pos hz).symm.trans e;have key:=SeqAt.RcAt.lists (A:=A) (e:=BZ (bF n) xs ys) (aY w.2.2.1) (aY g') (z1.trans (hz.trans z2.symm)) hu0 λj=>jQ hz e w.2.2.2 l' hin j;rw[z1,<-(gJ hz e).2]at key;exact key
    ·cases (if_neg hz).symm.trans e
     exact SeqAt.RcAt.lists_lengths (aY w.2.2.1) (aY g') (bne_iff_ne.mpr (z1▸z2▸hz)) hu0) e
 |dct xs=>
  have e:y.onD (λb=>if xs.length=b.length then fV (bF n) xs b else some false) none=some b:=e;exact(show _/\∃a es m,v = .ref a/\(a==sysModules)=false/\¬X a/\s.heap.get? a=some (dictOf es m)/\RelD G X s.heap xs es from r).2.elim λa w=>w.elim λvs w=>w.elim λm w=>w.1▸
   wD (d:=none) (P:=λu o=>o=some b->SeqAt.RcAt A s (.ref a) u b) ty nn (λys c us k _ _ nb _ g' l' e=>by
    by_cases hz:xs.length=ys.length
    ·exact vq w.2.1 nb w.2.2.2.1 g' w.2.2.2.2 l' hz hu0 hin ((if_pos hz).symm.trans e)
    ·cases (if_neg hz).symm.trans e
     exact jO w.2.1 nb w.2.2.2.1 g' (RelD.length w.2.2.2.2▸RelD.length l'▸hz) hu0) e
 |_=>exact nn (show none=some b from e)
theorem Ed(n:Nat):∀{A:Around}{X:Av}{x y:V}{v u:Value}{b:Bool},Rel G X s.heap x v->Rel G X s.heap y u->bF n x y=some b->A.units+n<cLine->SeqAt.RcAt A s v u b:=by
 induction n with
 |zero=>exact λ_ _ e _=>nn e
 |succ n ih=>
  intro A X x y v u b r t e hu;exact yP r t e (LN (L6 _ _) hu) λx y v u c rx ry hc=>ou (vt rx) (λe=>lL n x y v c rx (e▸ry) hc) (ih (A:=A.in1) rx ry hc (by rw[Nat.add_comm n 1,<-Mj]at hu;exact hu))
theorem Hz(n:Nat){X:Av}{x y:V}{v u:Value}{b:Bool}(r:Rel G X s.heap x v)(t:Rel G X s.heap y u)(e:bF n x y=some b)(hu:A.units+n<cLine):SeqAt.EqAt A s v u b:=
 ou (vt r) (λq=>lL n x y v b r (q▸t) e) (Ed n (A:=A) r t e hu)
noncomputable def oy:pQ->CmpOp
 |.eq=>.Eq|.ne=>.NotEq|.lt=>.Lt|.le=>.LtE|.gt=>.Gt|.ge=>.GtE|.is=>.Is|.isin=>.In|.notin=>.NotIn
theorem dZ{x:V}{h:Heap}{X:Av}{v:Value}(hx:x.isObj=false)(r:TRel G ρ X h x v):Rel G X h x v:=by
 cases x with
 |obj i=>cases hx
 |_=>exact r
theorem jR{n:Nat}{x y:V}{b:Bool}(h:bF (n+1) x y=some b):x.isObj=false/\y.isObj=false:=by
 refine⟨?_,?_⟩
 ·cases x with
  |obj i=>exact nn h
  |_=>rfl
 ·cases y with
  |obj i=>cases x<;>exact nn h
  |_=>rfl
theorem vu{n:Nat}{X:Av}{xs ys:List V}{a c:Addr}{vs us:List Value}{m k:Nat}{b:Bool}{prog:PySem.Program}{w:World}{E:Value->Shared->Prop}{Q:Value->Shared->Prop}(g:s.heap.get? a=some (bD vs m))(g':s.heap.get? c=some (bD us k))(l:RelL G X s.heap xs vs)(l':RelL G X s.heap ys us)
  (e:bF (n+1) (.lst xs) (.lst ys)=some b) (hu:A.units+(n+1)<cLine) (h:Q (.bool (!b)) s):wpAny (model prog w) A (compareOp .NotEq (.ref a) (.ref c)) Q E s:=by
 have hu0:A.units<cLine:=LN (L6 _ _) hu;have e:(if xs.length=ys.length then fU (bF n) xs ys else some false)=some b:=e;have z1:vs.toArray.size=xs.length:=RelL.length l;have z2:us.toArray.size=ys.length:=RelL.length l'
 by_cases hz:xs.length=ys.length
 ·have e:=(if_pos hz).symm.trans e;refine SeqAt.RcNeAt.lists (A:=A) (e:=BZ (bF n) xs ys) (aY g) (aY g') (z1.trans (hz.trans z2.symm)) hu0 (λj=>jQ hz e l l' (λx y v u c rx ry hc=>Hz (A:=A.in1) n rx ry hc (by rw[Nat.add_comm n 1,<-Mj]at hu;exact hu)) j) prog w E Q ?_;rw[z1,<-(gJ hz e).2];exact h
 ·cases (if_neg hz).symm.trans e;exact SeqAt.RcNeAt.lists_lengths (aY g) (aY g') (bne_iff_ne.mpr (z1▸z2▸hz)) hu0 prog w E Q h
noncomputable def r6(k:Int):Value->Bool
 |.int i _=>i==k
 |_=>false
noncomputable def iE:Value->Bool
 |.none=>true
 |_=>false
theorem any_cons{α:Type}{P:α->Prop}{p:α->Bool}{v:α}{q:List α}{b c:Bool}(h:P v)(hb:p v=b)(t:(∀v,v∈q->P v)/\q.any p=c):(∀u,u∈v::q->P u)/\(v::q).any p=(b||c):=
 ⟨λu hu=>(LI.mp hu).elim (λe=>e▸h) (t.1 u),congr (congrArg or hb) t.2⟩
theorem lw{α β:Type}{o:Option α}{f:α->β}{b:β}{P:Prop}(h:o.map f=some b)(k:∀c,o=some c->f c=b->P):P:=by
 cases o with
 |none=>exact nn h
 |some c=>exact k c rfl (LM h)
theorem qh{X:Av}{k:Int}{t:Tok}{xs:List V}:∀{vs:List Value}{b:Bool},RelL G X s.heap xs vs->pT k xs=some b->
  (∀v,v∈vs->SeqAt.EqAt A s v (.int k t) (r6 k v))/\vs.any (r6 k)=b:=by
 induction xs with
 |nil=>intro vs b l h;cases (show vs=[]from l);exact⟨λv hv=>(by cases hv),LM h⟩
 |cons x xs ih=>
  intro vs b l;refine bY l λv q rx l'=>cg (d:=none) (f:=λi=>(pT k xs).map ((i==k)||·)) (P:=λv o=>o=some b->(∀u,u∈v::q->SeqAt.EqAt A s u (.int k t) (r6 k u))/\(v::q).any (r6 k)=b) (aF (ρ:=[]) rx) nn λi u h=>lw h λc hc hb=>?_;rw[<-hb];exact any_cons (SeqAt.EqAt.int_int _ _ _ _) rfl (ih l' hc)
theorem qi{X:Av}{xs:List V}:∀{vs:List Value}{b:Bool},RelL G X s.heap xs vs->ms xs=some b->
  (∀v,v∈vs->SeqAt.EqAt A s v .none (iE v))/\vs.any iE=b:=by
 induction xs with
 |nil=>intro vs b l h;cases (show vs=[]from l);exact⟨λv hv=>(by cases hv),LM h⟩
 |cons x xs ih=>
  intro vs b l;refine bY l λv q rx l'=>?_;have tx:=aF (ρ:=[]) rx;refine on (c:=(ms xs).map (true||·)) (P:=λv o=>o=some b->(∀u,u∈v::q->SeqAt.EqAt A s u .none (iE u))/\(v::q).any iE=b) tx (jf (d:=none) (f:=λ_=>(ms xs).map (false||·)) (P:=λv o=>o=some b->(∀u,u∈v::q->SeqAt.EqAt A s u .none (iE u))/\(v::q).any iE=b) tx nn λl t _ h=>lw h λc hc hb=>?_) λh=>lw h λc hc hb=>?_
  ·rw[<-hb];exact any_cons (EqAt.of_rc (λw=>(by cases w)) (λ_ _ w=>(by cases w)) (fY _ _)) rfl (ih l' hc)
  ·rw[<-hb];exact any_cons (SeqAt.EqAt.same _) rfl (ih l' hc)
theorem iF{X:Av}{x:V}{xs:List V}{vs:List Value}{u:Value}{b:Bool}(l:RelL G X s.heap xs vs)(rx:TRel G ρ X s.heap x u)(hp:ln x xs=some b) :
  ∃e:Value->Bool,(∀v,v∈vs.toArray->SeqAt.EqAt A s v u (e v))/\vs.toArray.any e=b:=
 have go:∀{u:Value}{e:Value->Bool},((∀v,v∈vs->SeqAt.EqAt A s v u (e v))/\vs.any e=b)->∃e:Value->Bool,(∀v,v∈vs.toArray->SeqAt.EqAt A s v u (e v))/\vs.toArray.any e=b:=λ{u e} h=>⟨e,λv hv=>h.1 v (List.mem_toArray.mp hv),List.any_toArray.trans h.2⟩
 cg (f:=λk=>pT k xs) (P:=λu o=>o=some b->∃e:Value->Bool,(∀v,v∈vs.toArray->SeqAt.EqAt A s v u (e v))/\vs.toArray.any e=b) rx (on (d:=none) (c:=ms xs) (P:=λu o=>o=some b->∃e:Value->Bool,(∀v,v∈vs.toArray->SeqAt.EqAt A s v u (e v))/\vs.toArray.any e=b) rx nn λh=>go (qi l h)) (λk t h=>go (qh l h)) hp
section
variable{op:CmpOp}{a b:V}{x y:Value}{d:Out V}
theorem Wps.optB{t:Sem Value}{o:Option Bool}(sr:SR G F ρ H s.heap)(h:∀c,o=some c->∀(Q:Value->Shared->Prop)(E:Value->Shared->Prop),Q (.bool c) s->wpAny (Md G) A t Q E s):Wps G F al A ρ H s t (RV G F) Z (optB o H):=by
 cases o with
 |none=>trivial
 |some c=>exact Wps.val (tk:=s.toks) sr (h c rfl) aW
theorem Ee{f:Int->Int->Out V}(ra:TRel G ρ (F.or (aj ρ H)) s.heap a x)(rb:TRel G ρ (F.or (aj ρ H)) s.heap b y)(hd:Wps G F al A ρ H s (compareOp op x y) (RV G F) Z d)
  (h:∀i j t u,Wps G F al A ρ H s (compareOp op (.int i t) (.int j u)) (RV G F) Z (f i j)):Wps G F al A ρ H s (compareOp op x y) (RV G F) Z (a.onI (λx=>b.onI (f x) .bad) d):=
 cg ra hd λi t=>cg rb trivial λj u=>h i j t u
theorem HA{f:List Nat->List Nat->Out V}(ra:TRel G ρ (F.or (aj ρ H)) s.heap a x)(rb:TRel G ρ (F.or (aj ρ H)) s.heap b y)
  (h:∀i j t u,Wps G F al A ρ H s (compareOp op (.str ⟨i.toArray⟩ t) (.str ⟨j.toArray⟩ u)) (RV G F) Z (f i j)):Wps G F al A ρ H s (compareOp op x y) (RV G F) Z (a.onS (λx=>b.onS (f x) .bad) .bad):=
 jN ra trivial λi t _=>jN rb trivial λj u _=>h i j t u
theorem HB{n:Nat}(rm:Rm n A)(sr:SR G F ρ H s.heap)(ra:TRel G ρ (F.or (aj ρ H)) s.heap a x)(rb:TRel G ρ (F.or (aj ρ H)) s.heap b y) :
  Wps G F al A ρ H s (compareOp .NotEq x y) (RV G F) Z (a.onB (λx=>b.onB (λy=>.ok (.bool (!(x==y))) H) .bad) (a.onL (λx=>b.onL (λy=>optB ((n6 (.lst x) (.lst y)).map (!·)) H) .bad) .bad)):=
 tN ra (wL ra trivial λl c vs m _ _ g hl=>wL rb trivial λl' c' us k _ _ g' hl'=>Wps.optB sr λc hc Q E q=>lw hc λr hr hb=>vu (n:=5) g g' hl hl' hr (by have:=rm.un;omega) (hb▸q))
  λi=>tN rb trivial λj=>Wps.val (tk:=s.toks) sr (λQ E q=>SeqAt.RcNeAt.bool_bool _ _ G.p G.w E Q q) aW
theorem HC(sr:SR G F ρ H s.heap)(ra:TRel G ρ (F.or (aj ρ H)) s.heap a x)(rb:TRel G ρ (F.or (aj ρ H)) s.heap b y) :
  Wps G F al A ρ H s (compareOp .Is x y) (RV G F) Z (b.onN (a.onN (.ok (.bool true) H) (a.onY (λ_=>.ok (.bool false) H) (a.onI (λ_=>.ok (.bool false) H) .bad))) .bad):=
 on rb trivial (on ra (jf ra (cg ra trivial λi t=>Wps.val (tk:=s.toks) sr (λQ E q=>is_int_none q) aW) λl t _=>Wps.val (tk:=s.toks) sr (λQ E q=>is_bytes_none q) aW) (Wps.val (tk:=s.toks) sr (λQ E q=>is_none_none q) aW))
theorem HD(sr:SR G F ρ H s.heap)(ra:TRel G ρ (F.or (aj ρ H)) s.heap a x)(rb:TRel G ρ (F.or (aj ρ H)) s.heap b y) :
  Wps G F al A ρ H s (compareOp .In x y) (RV G F) Z (b.onL (λxs=>optB (ln a xs) H) .bad):=
 wL rb trivial λl c vs m _ _ g hl=>Wps.optB sr λc hc Q E q=>(iF (A:=A.in1) hl ra hc).elim λe h=>SeqAt.in_listAt e (aY g) h.1 (h.2.symm▸q)
theorem HE(sr:SR G F ρ H s.heap)(ra:TRel G ρ (F.or (aj ρ H)) s.heap a x)(rb:TRel G ρ (F.or (aj ρ H)) s.heap b y) :
  Wps G F al A ρ H s (compareOp .NotIn x y) (RV G F) Z (b.onL (λxs=>optB ((ln a xs).map (!·)) H) (b.onT (λxs=>optB ((ln a xs).map (!·)) H) (b.onOL H λxs=>optB ((ln a xs).map (!·)) H))):=
 have go:∀{l:List V}{c:Addr}{vs:List Value}{m:Nat},s.heap.get? c=some (bD vs m)->RelL G (F.or (aj ρ H)) s.heap l vs->Wps G F al A ρ H s (compareOp .NotIn x (.ref c)) (RV G F) Z (optB ((ln a l).map (!·)) H):=λg hl=>
  Wps.optB sr λc hc Q E q=>lw hc λr hr hb=>(iF (A:=A.in1) hl ra hr).elim λe h=>SeqAt.notIn_listAt e (aY g) h.1 (by rw[h.2,hb];exact q)
 wL rb (wT rb (Jr sr rb (λ_=>trivial) λl c vs m _ g hl=>go g hl) λl c vs m _ _ g hl=>Wps.optB sr λc hc Q E q=>lw hc λr hr hb=>(iF (A:=A.in1) hl ra hr).elim λe h=>SeqAt.notIn_tupleAt e (qg g) h.1 (by rw[h.2,hb];exact q)) λl c vs m _ _ g hl=>go g hl
end
theorem iG{n:Nat}(rm:Rm n A)(op:pQ){a b:V}{x y:Value}(sr:SR G F ρ H s.heap)(ra:TRel G ρ (F.or (aj ρ H)) s.heap a x)(rb:TRel G ρ (F.or (aj ρ H)) s.heap b y) :
  Wps G F al A ρ H s (compareOp (oy op) x y) (RV G F) Z (aw op a b H):=by
 cases op with
 |eq=>exact Wps.optB sr λc hp Q E q=>Ed 6 (dZ (jR hp).1 ra) (dZ (jR hp).2 rb) hp (by have:=rm.un;omega) G.p G.w E Q q
 |ne=>exact Ee ra rb (HB rm sr ra rb) λi j t u=>Wps.val (tk:=s.toks) sr (λQ E q=>SeqAt.RcNeAt.int_int _ _ _ _ G.p G.w E Q q) aW
 |lt=>exact Ee ra rb (HA ra rb λi j t u=>eT i j▸Wps.val (tk:=s.toks) sr (λQ E q=>P.lt_str q) aW) λi j t u=>Wps.val (tk:=s.toks) sr (λQ E q=>P.lt_int q) aW
 |le=>exact Ee ra rb trivial λi j t u=>Wps.val (tk:=s.toks) sr (λQ E q=>P.le_int q) aW
 |gt=>exact Ee ra rb (HA ra rb λi j t u=>eT j i▸Wps.val (tk:=s.toks) sr (λQ E q=>P.gt_str q) aW) λi j t u=>Wps.val (tk:=s.toks) sr (λQ E q=>P.gt_int q) aW
 |ge=>exact Ee ra rb (HA ra rb λi j t u=>eT i j▸Wps.val (tk:=s.toks) sr (λQ E q=>P.ge_str q) aW) λi j t u=>Wps.val (tk:=s.toks) sr (λQ E q=>P.ge_int q) aW
 |is=>exact HC sr ra rb
 |isin=>exact HD sr ra rb
 |notin=>exact HE sr ra rb
theorem gK(slice:Expr)(o i:Value):∃ops,subscripted slice false o i=operate ops (getItem o i):=by
 cases slice with
 |Slice a b c p=>cases c<;>exact⟨_,rfl⟩
 |_=>exact⟨_,rfl⟩
theorem Bi{xs:List V}{i:Nat}{x:V}(hz:xs.length<=aq)(h:xs[i]? = some x):i<xs.length/\(i:Int)<2 ^ 63:=
 have h:=(LE.mp h).1
 ⟨h,Int.lt_of_lt_of_le (Mi.mpr (L7 h hz)) (by decide)⟩
theorem Ef{xs:List V}{i:Int}{x:V}{P:Prop}(h:eR xs i=some x)(h1:0<=i->i<2 ^ 62->xs[i.toNat]? = some x->P)(h2:i<0->-(xs.length:Int)<=i->xs[(i+xs.length).toNat]? = some x->P):P:=by
 unfold eR at h
 by_cases c:0<=i
 ·rw[if_pos c]at h
  by_cases d:i<2 ^ 62
  ·exact h1 c d ((if_pos d).symm.trans h)
  ·exact nn ((if_neg d).symm.trans h)
 ·rw[if_neg c]at h
  by_cases d : -(xs.length:Int)<=i
  ·exact h2 (Int.not_le.mp c) d ((if_pos d).symm.trans h)
  ·exact nn ((if_neg d).symm.trans h)
theorem vv{value slice:Expr}{X:Av}{a:Addr}{xs:List V}{vs:List Value}{n:Nat}{i:Int}{u:Tok}{x:V}(g:s.heap.get? a=some (cS vs n))(l:RelL G X s.heap xs vs)(hz:xs.length<=aq)
  (h:eR xs i=some x):∃v,Rel G X s.heap x v/\∀(Q:Value->Shared->Prop)(E:Value->Shared->Prop),Q v s->wpAny (Md G) A (subscriptTail value slice (.ref a) (.int i u)) Q E s:=
 have ht:IsTup s.heap a vs.toArray:=⟨_,g,rfl,n,rfl⟩;have hl:vs.toArray.size=xs.length:=RelL.length l
 have go:∀{j:Nat},xs[j]? = some x->-(2 ^ 63)<=i->i<2 ^ 63->seqIndex? i xs.length=some j->∃v,Rel G X s.heap x v/\∀(Q:Value->Shared->Prop)(E:Value->Shared->Prop),Q v s->wpAny (Md G) A (subscriptTail value slice (.ref a) (.int i u)) Q E s:=λhx h1 h2 hj=>
  (RelL.get l hx).elim λv e=>(gK slice (.ref a) (.int i u)).elim λops hs=>⟨v,e.2,λQ E q=>tail_any ht.typeIs slot_tuple_getitem.lookup (getItem_tuple ht h1 h2 (hl.symm▸hj) (List.getElem?_toArray.trans e.1) q) hs⟩
 Ef h (λh1 h2 hx=>go hx (Mt (by decide) h1) (Int.lt_trans h2 (by decide)) (by
   unfold seqIndex?
   rw[if_neg (Int.not_lt.mpr h1),if_pos (LD.mpr ⟨decide_eq_true h1,decide_eq_true ((Int.toNat_lt h1).mp (Bi hz hx).1)⟩)]))
  λh1 h2 hx=>go hx (Mt (Int.neg_le_neg (Mt (LU.mpr hz) (by decide))) h2) (Int.lt_trans h1 (by decide)) (by
   have h3:0<=i+xs.length:=by omega
   unfold seqIndex?
   rw[if_pos h1,if_pos (LD.mpr ⟨decide_eq_true h3,decide_eq_true ((Int.toNat_lt h3).mp (Bi hz hx).1)⟩)])
theorem vw{value slice:Expr}{X:Av}{a:Addr}{xs:List V}{vs:List Value}{n:Nat}{i:Int}{u:Tok}{x:V}(g:s.heap.get? a=some (bD vs n))(l:RelL G X s.heap xs vs)(hz:xs.length<=aq)
  (h:eR xs i=some x):∃v,Rel G X s.heap x v/\∀(Q:Value->Shared->Prop)(E:Value->Shared->Prop),Q v s->wpAny (Md G) A (subscriptTail value slice (.ref a) (.int i u)) Q E s:=
 have hl:vs.toArray.size=xs.length:=RelL.length l;have hL:=aY g
 (gK slice (.ref a) (.int i u)).elim λops hs=>Ef h
  (λh1 h2 hx=>(RelL.get l hx).elim λv e=>⟨v,e.2,λQ E q=>tail_any hL.typeIs slot_list_getitem.lookup (wpAny_getItem_list hL h1 (Int.lt_trans h2 (by decide)) (List.getElem?_toArray.trans e.1) q) hs⟩)
  λh1 h2 hx=>(RelL.get l hx).elim λv e=>⟨v,e.2,λQ E q=>tail_any hL.typeIs slot_list_getitem.lookup (wpAny_getItem_list_neg hL h1 (hl.symm▸h2) (Mt (Int.neg_le_neg (Mt (LU.mpr hz) (by decide))) h2) (by rw[hl];exact List.getElem?_toArray.trans e.1) q) hs⟩
theorem gM{X:Av}{h:Heap}{xs:List (List Nat × V)}:∀{es:List DictEntry},RelD G X h xs es->∀e∈es,∃k,(strKind G.p G.w).is k e.key=true/\e.hash=(strKind G.p G.w).hash k:=by
 induction xs with
 |nil=>intro es l;cases (show es=[]from l);exact λ_ h=>(by cases h)
 |cons p r ih=>intro es l;exact eW l λe q k _ _ t e' he=>(LI.mp he).elim (λw=>w▸k.1.elim λt ht=>⟨⟨p.1.toArray⟩,by rw[ht];exact strKind_is G.p G.w _ _,k.2⟩) (ih t e')
theorem tT{X:Av}{h:Heap}{a:Addr}{kvs:List (List Nat × V)}{es:List DictEntry}{n:Nat}(g:h.get? a=some (dictOf es n))(l:RelD G X h kvs es) :
  h.MapOf (strKind G.p G.w) a (λk=>findBy Value.isStrOf es.toArray k):=
 ⟨_,_,_,g,⟨rfl,rfl,rfl⟩,rfl,λe he=>gM l e (List.mem_toArray.mp he),λ_=>rfl⟩
theorem vx{X:Av}{h:Heap}{k:List Nat}{kvs:List (List Nat × V)}:∀{es:List DictEntry}{x:V},RelD G X h kvs es->fy kvs k=some x->∃v,findBy Value.isStrOf es.toArray ⟨k.toArray⟩ = some v/\Rel G X h x v:=by
 induction kvs with
 |nil=>exact λ_ h=>nn h
 |cons p r ih=>
  intro es x l;refine eW l λe q kk _ rx t' hp=>?_
  have e1:Value.isStrOf ⟨k.toArray⟩ e.key=decide (p.1=k):=kk.1.elim λt ht=>by
   rw[ht];exact decide_eq_decide.mpr ⟨λw=>congrArg Array.toList (Str.mk.inj w),λw=>w▸rfl⟩
  unfold findBy;rw[List.find?_toArray,List.find?_cons,e1]
  by_cases c:p.1=k
  ·rw[decide_eq_true c];exact⟨_,rfl,LM ((if_pos c).symm.trans hp)▸rx⟩
  ·rw[decide_eq_false c];have w:=ih t' ((if_neg c).symm.trans hp);unfold findBy at w;rw[List.find?_toArray]at w;exact w
theorem Wps.optV{t:Sem Value}{o:Option V}(sr:SR G F ρ H s.heap)(h:∀z,o=some z->∃v tk,TRel G ρ (F.or (aj ρ H)) s.heap z v/\∀(Q:Value->Shared->Prop)(E:Value->Shared->Prop),Q v {s with toks:=tk}->wpAny (Md G) A t Q E s):Wps G F al A ρ H s t (RV G F) Z (optV o H):=by
 cases o with
 |none=>trivial
 |some z=>exact(h z rfl).elim λv w=>w.elim λtk w=>Wps.val (tk:=tk) sr w.2 w.1
section
variable{value slice:Expr}{a i:V}{x y:Value}
theorem Eg(sr:SR G F ρ H s.heap)(ra:TRel G ρ (F.or (aj ρ H)) s.heap a x)(i:Int)(t:Tok) :
  Wps G F al A ρ H s (subscriptTail value slice x (.int i t)) (RV G F) Z (a.onT (λxs=>optV (eR xs i) H) (a.onL (λxs=>optV (eR xs i) H) (a.onOL H λxs=>optV (eR xs i) H))):=
 have go:∀{l:List V}{c:Addr}{vs:List Value}{m:Nat},l.length<=aq->s.heap.get? c=some (bD vs m)->RelL G (F.or (aj ρ H)) s.heap l vs->Wps G F al A ρ H s (subscriptTail value slice (.ref c) (.int i t)) (RV G F) Z (optV (eR l i) H):=λhz g hl=>
  Wps.optV sr λz hp=>(vw g hl hz hp).elim λv w=>⟨v,s.toks,aF w.1,w.2⟩
 wT ra (wL ra (Jr sr ra (λ_=>trivial) λl c vs m hz g hl=>go hz g hl) λl c vs m hz _ g hl=>go hz g hl) λl c vs m hz _ g hl=>Wps.optV sr λz hp=>(vv g hl hz hp).elim λv w=>⟨v,s.toks,aF w.1,w.2⟩
theorem Eh(sr:SR G F ρ H s.heap)(ra:TRel G ρ (F.or (aj ρ H)) s.heap a x)(k:List Nat)(t:Tok):Wps G F al A ρ H s (subscriptTail value slice x (.str ⟨k.toArray⟩ t)) (RV G F) Z (a.onD (λkvs=>optV (fy kvs k) H) .bad):=
 wD ra trivial λl c es m _ _ _ _ g hl=>Wps.optV sr λz hp=>(vx hl hp).elim λv w=>(gK slice (.ref c) (.str ⟨k.toArray⟩ t)).elim λops hs=>
  have hm:=tT g hl
  ⟨v,s.toks+1,aF w.2,λQ E q=>tail_any hm.typeIs slot_dict_getitem.lookup (wpAny_getItem_of (strKind_is G.p G.w _ t) hm w.1 q) hs⟩
theorem B0(sr:SR G F ρ H s.heap)(ra:TRel G ρ (F.or (aj ρ H)) s.heap a x)(rb:TRel G ρ (F.or (aj ρ H)) s.heap i y) :
  Wps G F al A ρ H s (subscriptTail value slice x y) (RV G F) Z (c0 a i H):=
 cg (P:=λy o=>Wps G F al A ρ H s (subscriptTail value slice x y) (RV G F) Z o) rb (jN (P:=λy o=>Wps G F al A ρ H s (subscriptTail value slice x y) (RV G F) Z o) rb trivial λk t _=>Eh sr ra k t) (Eg sr ra)
end
structure Inv(G:Cx)(F:Av)(A:Around)(sc:Scope)(nm:List Str)(env:Env)(ρ:List (Addr × Addr))(H:Hp)(σ:ai)(s:Shared):Prop where
 sr:SR G F ρ H s.heap
 ev:EnvR G F ρ H sc nm env σ s.heap
 st:Stk F A s.heap
 ft:∀a,F a->∃o,s.heap.get? a=some o
section
variable{sc:Scope}{nm:List Str}{env:Env}{σ:ai}
theorem Inv.fr(I:Inv G F A sc nm env ρ H σ s):∀b,b∈frs A->F b:=λ_ m=>I.st.frs m
theorem Inv.aft(I:Inv G F A sc nm env ρ H σ s)(a:Aft G F al ρ H s ρ' H' s'):Inv G F A sc nm env ρ' H' σ s':=
 ⟨a.sr,I.ev.aft a I.sr,I.st.aft a I.sr λ_ _ m=>m,λx f=>let ⟨o,e⟩:=I.ft x f;a.ext.there x o e⟩
end
def SE(G:Cx)(F:Av)(A:Around)(sc:Scope)(nm:List Str)(env:Env)(Z:Option (Option Addr)->Prop)(f:ai->Hp->Out V)(t:Sem Value):Prop:=
 ∀ ⦃ρ H s σ⦄,Inv G F A sc nm env ρ H σ s->Wps G F al A ρ H s t (RV G F) Z (f σ H)
def ST(G:Cx)(F:Av)(A:Around)(sc:Scope)(nm:List Str)(env:Env)(Z:Option (Option Addr)->Prop)(f:ai->Hp->Out Bool)(t:Sem Bool):Prop:=
 ∀ ⦃ρ H s σ⦄,Inv G F A sc nm env ρ H σ s->Wps G F al A ρ H s t (λ_ _ _ b a=>a=b) Z (f σ H)
def lx(G:Cx)(F:Av)(A:Around)(sc:Scope)(nm:List Str)(env:Env)(Z:Option (Option Addr)->Prop)(f:ai->Hp->Out (List V))(t:Sem (List Value)):Prop:=
 ∀ ⦃ρ H s σ⦄,Inv G F A sc nm env ρ H σ s->Wps G F al A ρ H s t (RTs G F) Z (f σ H)
section
variable{sc:Scope}{nm:List Str}{env:Env}
theorem SE.eq{f:ai->Hp->Out V}{t t':Sem Value}(e:t=t')(h:SE G F A sc nm env Z f t'):SE G F A sc nm env Z f t:=e▸h
theorem ST.eq{f:ai->Hp->Out Bool}{t t':Sem Bool}(e:t=t')(h:ST G F A sc nm env Z f t'):ST G F A sc nm env Z f t:=e▸h
end
section
variable{sc:Scope}{nm:List Str}{env:Env}{σ:ai}{n:Nat}{pos:Pos}
theorem aA{h:Heap}{o:Obj}:∀b x,h.get? b=some x->(h.push o).get? b=some x:=λ_ _ e=>Heap.get?_push_of_some _ e
theorem bw{F:Av}{h:Heap}(sr:SR G F ρ H h)(hf:∀a,F a->∃o,h.get? a=some o):¬ (F.or (aj ρ H)) h.objs.size:=λx=>by
 have:∃o,h.get? h.objs.size=some o:=x.elim (hf _) λw=>fz sr w;obtain⟨o,e⟩:=this;exact Mg _ (Heap.lt_size e)
theorem qj{x y:List V}{v u:Value}(sr:SR G F ρ H s.heap)(hf:∀a,F a->∃o,s.heap.get? a=some o)(ra:TRel G ρ (F.or (aj ρ H)) s.heap (.lst x) v)(rb:TRel G ρ (F.or (aj ρ H)) s.heap (.lst y) u)(hz:(x++y).length<=aq) :
  Wps G F al A ρ H s (binaryOp .Add v u) (RV G F) Z (.ok (.lst (x++y)) H):=by
 have ra':Rel G (F.or (aj ρ H)) s.heap (.lst x) v:=ra;have rb':Rel G (F.or (aj ρ H)) s.heap (.lst y) u:=rb;obtain⟨_,a,vs,m,rfl,_,g,l⟩:=ra';obtain⟨_,a',us,m',rfl,_,g',l'⟩:=rb';have z:vs.length+us.length<=aq:=by rw[RelL.length l,RelL.length l'];simpa using hz
 refine ah (P.add_list g g' ?_ (by simp only[List.size_toArray];exact LB z (by decide)));have k:=@aA s.heap {cls:=.type "list", data:=.seq (vs.toArray++us.toArray)};have af:Aft G F al ρ H s ρ H {s with heap:=s.heap.push {cls:=.type "list", data:=.seq (vs.toArray++us.toArray)}}:=.keeps sr ⟨_,s.toks,rfl⟩ k;refine⟨ρ,af,?_⟩;show Rel _ _ _ _ _;show _/\∃a vs n,_;exact⟨hz,_,vs++us,0,rfl,bw sr hf,by rw[Heap.get?_push_size _ rfl];simp,RelL.append (af.relL (λ_ q=>q.elim) l) (af.relL (λ_ q=>q.elim) l')⟩
theorem qk{x y:List UInt8}{t u:Tok}(sr:SR G F ρ H s.heap)(z1:x.length<=aq)(z2:y.length<=aq)(hz:(x++y).length<=aq) :
  Wps G F al A ρ H s (binaryOp .Add (.bytes x.toArray t) (.bytes y.toArray u)) (RV G F) Z (.ok (.byt (x++y)) H):=
 ah (KBy.add_bytes (by rw[LC]at hz;exact LB hz (by decide)) λt' k=>⟨ρ,.toks sr k,hz,t',congrArg (Value.bytes · _) (List.append_toArray _ _)⟩)
theorem cT{op:Operator}{a b:V}{x y:Value}{f:Int->Int->Out V}(ra:TRel G ρ (F.or (aj ρ H)) s.heap a x)(rb:TRel G ρ (F.or (aj ρ H)) s.heap b y)
  (h:∀i j t u,Wps G F al A ρ H s (binaryOp op (.int i t) (.int j u)) (RV G F) Z (f i j)):Wps G F al A ρ H s (binaryOp op x y) (RV G F) Z (a.onI (λx=>b.onI (f x) .bad) .bad):=
 cg ra trivial λi t=>cg rb trivial λj u=>h i j t u
theorem vy{p q:List Nat}{t u:Tok}(sr:SR G F ρ H s.heap)(z1:p.length<=aq)(z2:q.length<=aq)(hz:(p++q).length<=aq) :
  Wps G F al A ρ H s (binaryOp .Add (.str ⟨p.toArray⟩ t) (.str ⟨q.toArray⟩ u)) (RV G F) Z (.ok (.str (p++q)) H):=by
 refine ah (P.add_str ?_);have e0:∀{l:List Nat},l≠[]->¬ (({cps:=l.toArray}:PySem.Str).length==0)=true:=λ{l} h w=>h (List.length_eq_zero_iff.mp (beq_iff_eq.mp w))
 cases p with
 |nil=>exact⟨ρ,.toks sr s.toks,z2,u,rfl⟩
 |cons c p=>
  rw[if_neg (e0 (List.cons_ne_nil _ _))]
  cases q with
  |nil=>exact⟨ρ,.toks sr s.toks,hz,t,by rw[LW]⟩
  |cons d q=>
   rw[if_neg (e0 (List.cons_ne_nil _ _))];exact⟨LB (by rw[<-List.size_toArray,<-List.append_toArray]at hz;exact hz) (by decide),ρ,.toks sr _,hz,s.toks,congrArg (λa=>Value.str ⟨a⟩ _) (List.append_toArray _ _)⟩
section
variable{a b:V}{x y:Value}{d:Out V}
theorem Ei(sr:SR G F ρ H s.heap)(ra:TRel G ρ (F.or (aj ρ H)) s.heap a x)(rb:TRel G ρ (F.or (aj ρ H)) s.heap b y)(hd:Wps G F al A ρ H s (binaryOp .Add x y) (RV G F) Z d) :
  Wps G F al A ρ H s (binaryOp .Add x y) (RV G F) Z (a.onI (λx=>b.onI (λy=>.ok (.int (x+y)) H) .bad) d):=
 cg ra hd λi t=>cg rb trivial λj u=>Wps.val sr (λQ E q=>wpAny_add_int q) be
theorem Ej(sr:SR G F ρ H s.heap)(ra:TRel G ρ (F.or (aj ρ H)) s.heap a x)(rb:TRel G ρ (F.or (aj ρ H)) s.heap b y)(hd:Wps G F al A ρ H s (binaryOp .Add x y) (RV G F) Z d) :
  Wps G F al A ρ H s (binaryOp .Add x y) (RV G F) Z (a.onY (λx=>b.onY (λy=>guard (decide ((x++y).length<=aq)) (.ok (.byt (x++y)) H)) .bad) d):=
 jf ra hd λp t z1=>jf rb trivial λq u z2=>Wps.guard λhz=>qk sr z1 z2 (of_decide_eq_true hz)
theorem Ek(sr:SR G F ρ H s.heap)(ra:TRel G ρ (F.or (aj ρ H)) s.heap a x)(rb:TRel G ρ (F.or (aj ρ H)) s.heap b y)(hd:Wps G F al A ρ H s (binaryOp .Add x y) (RV G F) Z d) :
  Wps G F al A ρ H s (binaryOp .Add x y) (RV G F) Z (a.onS (λx=>b.onS (λy=>guard (decide ((x++y).length<=aq)) (.ok (.str (x++y)) H)) .bad) d):=
 jN ra hd λp t z1=>jN rb trivial λq u z2=>Wps.guard λhz=>vy sr z1 z2 (of_decide_eq_true hz)
theorem El(sr:SR G F ρ H s.heap)(hf:∀a,F a->∃o,s.heap.get? a=some o)(ra:TRel G ρ (F.or (aj ρ H)) s.heap a x)(rb:TRel G ρ (F.or (aj ρ H)) s.heap b y) :
  Wps G F al A ρ H s (binaryOp .Add x y) (RV G F) Z (a.onL (λx=>b.onL (λy=>guard (decide ((x++y).length<=aq)) (.ok (.lst (x++y)) H)) .bad) .bad):=
 yJ ra trivial λp r1=>yJ rb trivial λq r2=>Wps.guard λhz=>qj sr hf r1 r2 (of_decide_eq_true hz)
end
theorem B3{n:Nat}(bf:Bf G)(rm:Rm n A)(op:BK){a b:V}{x y:Value}(sr:SR G F ρ H s.heap)(hf:∀a,F a->∃o,s.heap.get? a=some o)(ra:TRel G ρ (F.or (aj ρ H)) s.heap a x)(rb:TRel G ρ (F.or (aj ρ H)) s.heap b y) :
  Wps G F al A ρ H s (binaryOp (Hv op) x y) (RV G F) Z (aL op a b H):=by
 cases op with
 |add=>exact Ei sr ra rb (Ej sr ra rb (Ek sr ra rb (El sr hf ra rb)))
 |sub=>exact cT ra rb λi j t u=>Wps.val sr (λQ E q=>P.sub_int q) be
 |mul=>exact cT ra rb λi j t u=>Wps.guard λhz=>Wps.val sr (λQ E q=>P.mul_int q (((Bool.or_eq_true _ _).mp hz).elim (λh=>IntMulOk.of_left (jM h)) λh=>IntMulOk.of_right (jM h))) be
 |fdiv=>exact cT ra rb λi j t u=>Wps.guard λhz=>Wps.val sr (λQ E q=>floordiv_int (of_decide_eq_true hz) q (.inr (vh bf sr rm))) be
 |mod=>exact cT ra rb λi j t u=>Wps.guard λhz=>Wps.val sr (λQ E q=>mod_int' (of_decide_eq_true hz) q) be
 |pow=>exact cT ra rb λi j t u=>Wps.guard λhz=>Jp hz λh1 h2 h3 h4=>Wps.val sr (λQ E q=>pow_int_small h3 (vm h4 (by decide)) (BX h1 h2) q) be
 |shl=>exact cT ra rb λi j t u=>Wps.guard λhz=>Ec hz λh1 h2 h3=>Wps.val sr (λQ E q=>lshift_int_small h2 (vm h3 (by decide)) (tM h1) q) be
 |shr=>exact cT ra rb λi j t u=>Wps.guard λhz=>BY hz λh1 h2=>Wps.val sr (λQ E q=>rshift_int h1 q) be
 |band=>exact cT ra rb λi j t u=>Wps.guard λhz=>BY hz λh1 h2=>Wps.val sr (λQ E q=>and_int (by rw[bitAnd_pp h1 h2];exact q)) be
 |bor=>exact cT ra rb λi j t u=>Wps.guard λhz=>BY hz λh1 h2=>Wps.val sr (λQ E q=>or_int (by rw[vl h1 h2];exact q)) be
theorem Em{op:BK}{l r:Expr}{f g:ai->Hp->Out V}(bf:Bf G)(rm:Rm n A)(ha:SE G F A sc nm env Z f (eval l env))(hb:SE G F A sc nm env Z g (eval r env)) :
  SE G F A sc nm env Z (λσ H=>(f σ H).vb λx H1=>(g σ H1).vb λy H2=>aL op x y H2) (eval (.BinOp l (Hv op) r pos) env):=SE.eq (arm_eval_BinOp ..) λρ H s σ I=>by
 refine Wps.vb I.sr I.fr (ha I) λx b ρ1 H1 s1 _ a1 r1=>?_;have I1:=I.aft a1;refine Wps.vb I1.sr I1.fr (Wps.via (λQ E q=>ad q) (hb I1)) λy c ρ2 H2 s2 _ a2 r2=>?_;have I2:=I1.aft a2;exact Wps.via (λQ E q=>aa (ac (cz q))) (B3 bf rm op I2.sr I2.ft (a2.trel (λ_ q=>q.elim) r1) r2)
theorem En{l:Expr}{f:ai->Hp->Out V}(ha:SE G F A sc nm env Z f (eval l env)) :
  SE G F A sc nm env Z (λσ H=>(f σ H).vb λx H1=>x.onI (λi=>.ok (.int (-i)) H1) .bad) (eval (.UnaryOp .USub l pos) env):=SE.eq (arm_eval_UnaryOp ..) λρ H s σ I=>
 Wps.vb I.sr I.fr (ha I) λx b ρ1 H1 s1 _ a1 r1=>cg r1 trivial λi t=>Wps.via (λQ E q=>aa (ac (ad q))) (Wps.val a1.sr (λQ E q=>P.neg_int q) be)
theorem aG{b:Bool}{Q:Bool->Shared->Prop}{Mo:Model}{E:Value->Shared->Prop}(h:Q b s):wpAny Mo A (truthy (.bool b)) Q E s:=by
 cases b<;>exact λ_ _ _=>h
theorem ql{op:CmpOp}{r:Expr}(hm:behindInMarks op r=false):markedEach [op] [r] (evalEach [r] env)=[eval r env]:=by
 show[markedBehindIn op r (eval r env)]=_;unfold markedBehindIn;rw[hm]
theorem vz{o1 o2:CmpOp}{r q:Expr}(hm:behindInMarks o2 q=false):markedEach [o1,o2] [r,q] (evalEach [r,q] env)=[eval r env,eval q env]:=by
 show eval r env::markedEach [o2] [q] (evalEach [q] env)=_;rw[ql hm]
theorem Eo{op:pQ}{l r:Expr}{f g:ai->Hp->Out V}(rm:Rm n A)(hm:behindInMarks (oy op) r=false)(ha:SE G F A sc nm env Z f (eval l env))(hb:SE G F A sc nm env Z g (eval r env)) :
  SE G F A sc nm env Z (λσ H=>(f σ H).vb λx H1=>(g σ H1).vb λy H2=>aw op x y H2) (eval (.Compare l [oy op] [r] pos) env):=SE.eq (arm_eval_Compare ..) λρ H s σ I=>by
 rw[ql hm];refine Wps.vb I.sr I.fr (ha I) λx b ρ1 H1 s1 _ a1 r1=>?_;have I1:=I.aft a1;refine Wps.vb I1.sr I1.fr (Wps.via (λQ E q=>ad q) (hb I1)) λy c ρ2 H2 s2 _ a2 r2=>?_;have I2:=I1.aft a2;exact Wps.via (λQ E q=>aa (ac (cz q))) (iG rm op I2.sr (a2.trel (λ_ q=>q.elim) r1) r2)
theorem Wps.asB{t:Sem Value}{x:Out V}(h:Wps G F al A ρ H s t (RV G F) Z x):Wps G F al A ρ H s t (λ_ _ _ b v=>v=Value.bool b) Z (asB x):=by
 cases x with
 |ok v H=>cases v with
  |bool b=>exact h
  |_=>trivial
 |exc H=>trivial
 |bad=>trivial
theorem Wps.boolV{t:Sem Value}{x:Out V}(h:Wps G F al A ρ H s t (RV G F) Z x):Wps G F al A ρ H s t (RV G F) Z ((J.Internal.asB x).vb λb H=>.ok (.bool b) H):=by
 cases x with
 |ok v H=>cases v with
  |bool b=>exact h
  |_=>trivial
 |exc H=>trivial
 |bad=>trivial
theorem Wps.truth{t:Sem Value}{x:Out V}{k:Value->Sem Bool}(sr:SR G F ρ H s.heap)(fr:∀b,b∈frs A->F b)(h:Wps G F al A ρ H s t (RV G F) Z x)
  (hk:∀(b:Bool)(s:Shared)(Q:Bool->Shared->Prop)(E:Value->Shared->Prop),Q b s->wpS (Md G) A (k (.bool b)) Q E s) :
  Wps G F al A ρ H s (t>>=k) (λ_ _ _ b a=>a=b) Z (J.Internal.asB x):=
 Wps.vb sr fr h λv b ρ1 H1 s1 _ a1 r1=>tN r1 trivial λb=>hk b s1 _ _ ⟨ρ1,.refl a1.sr,rfl⟩
theorem Wps.br{t:Sem α}{k:α->Sem β}{u:Bool->α}{R:List (Addr × Addr)->Hp->Heap->γ->β->Prop}{x:Out Bool}{T E:Hp->Out γ}(I:Inv G F A sc nm env ρ H σ s)(h:Wps G F al A ρ H s t (λ_ _ _ b v=>v=u b) Z x)
  (ht:∀{ρ1 H1 s1},Aft G F al ρ H s ρ1 H1 s1->Inv G F A sc nm env ρ1 H1 σ s1->Wps G F al A ρ1 H1 s1 (k (u true)) R Z (T H1)) (he:∀{ρ1 H1 s1},Aft G F al ρ H s ρ1 H1 s1->Inv G F A sc nm env ρ1 H1 σ s1->Wps G F al A ρ1 H1 s1 (k (u false)) R Z (E H1)) :
  Wps G F al A ρ H s (t>>=k) R Z (x.vb λb H1=>match b with
   |true=>T H1
   |false=>E H1):=
 Wps.vb I.sr I.fr h λv b ρ1 H1 s1 _ a1 r1=>(congrArg (λv=>Wps G F al A ρ1 H1 s1 (k v) R Z _) r1).mpr (match b with
  |true=>ht a1 (I.aft a1)
  |false=>he a1 (I.aft a1))
theorem Ep{op:pQ}{l r:Expr}{f g:ai->Hp->Out V}{whole:Sem Value}(rm:Rm n A)(hm:behindInMarks (oy op) r=false)(ha:SE G F A sc nm env Z f (eval l env))(hb:SE G F A sc nm env Z g (eval r env)) :
  ST G F A sc nm env Z (λσ H=>(f σ H).vb λx H1=>(g σ H1).vb λy H2=>asB (aw op x y H2)) (isTrue (.Compare l [oy op] [r] pos) env whole):=ST.eq (arm_isTrue_Compare ..) λρ H s σ I=>by
 rw[ql hm];refine Wps.vb I.sr I.fr (ha I) λx b ρ1 H1 s1 _ a1 r1=>Wps.vb a1.sr I.fr (Wps.via (λQ E q=>ad q) (hb (I.aft a1))) λy c ρ2 H2 s2 _ a2 r2=>Wps.via (λQ E q=>aa (ac q)) ?_;exact Wps.truth a2.sr I.fr (Wps.via (λQ E q=>cz q) (iG rm op a2.sr (a2.trel (λ_ q=>q.elim) r1) r2)) λb s Q E q=>ad (ah <|aG q)
theorem bO{Mo:Model}{vs us:List Value}{Q:Unit->Shared->Prop}{E:Value->Shared->Prop}(h:Q () s):wpS Mo A (release vs us) Q E s:=ah (wpAny_release h)
theorem B4{o1 o2:pQ}{l r q:Expr}{f g k:ai->Hp->Out V}(rm:Rm n A)(hm:behindInMarks (oy o2) q=false)(ha:SE G F A sc nm env Z f (eval l env))(hb:SE G F A sc nm env Z g (eval r env))(hc:SE G F A sc nm env Z k (eval q env)) :
  SE G F A sc nm env Z (λσ H=>(f σ H).vb λx H1=>(g σ H1).vb λy H2=>(asB (aw o1 x y H2)).vb λr H3=>match r with
  |true=>(k σ H3).vb λz H4=>aw o2 y z H4
  |false=>.ok (.bool false) H3) (eval (.Compare l [oy o1,oy o2] [r,q] pos) env):=SE.eq (arm_eval_Compare ..) λρ H s σ I=>by
 rw[vz hm];refine Wps.vb I.sr I.fr (ha I) λx b ρ1 H1 s1 _ a1 r1=>Wps.vb a1.sr I.fr (Wps.via (λQ E q=>ad q) (hb (I.aft a1))) λy c ρ2 H2 s2 _ a2 r2=>Wps.via (λQ E q=>aa (ac q)) ?_;exact Wps.br ((I.aft a1).aft a2) (Wps.via (λQ E q=>ad q) (Wps.asB (iG rm o1 a2.sr (a2.trel (λ_ q=>q.elim) r1) r2)))
  (λa3 I3=>Wps.via (λQ E q=>aa (bO (aa (ad (ah <|aG q))))) (Wps.vb a3.sr I.fr (Wps.via (λQ E q=>ad q) (hc I3)) λz e ρ4 H4 s4 _ a4 r4=>
   Wps.via (λQ E q=>aa (ac (cz q))) (iG rm o2 a4.sr (a4.trel (λ_ q=>q.elim) (a3.trel (λ_ q=>q.elim) r2)) r4)))
  λ{ρ3 H3 s3} a3 I3=>Wps.via (λQ E q=>aa (bO (aa (ad (ah <|aG q))))) (Wps.val (tk:=s3.toks) a3.sr (λQ E q=>wpAny_pure q) aW)
theorem B5{o1 o2:pQ}{l r q:Expr}{f g k:ai->Hp->Out V}{whole:Sem Value}(rm:Rm n A)(hm:behindInMarks (oy o2) q=false)(ha:SE G F A sc nm env Z f (eval l env))(hb:SE G F A sc nm env Z g (eval r env))(hc:SE G F A sc nm env Z k (eval q env)) :
  ST G F A sc nm env Z (λσ H=>(f σ H).vb λx H1=>(g σ H1).vb λy H2=>(asB (aw o1 x y H2)).vb λr H3=>match r with
  |true=>(k σ H3).vb λz H4=>asB (aw o2 y z H4)
  |false=>.ok false H3) (isTrue (.Compare l [oy o1,oy o2] [r,q] pos) env whole):=ST.eq (arm_isTrue_Compare ..) λρ H s σ I=>by
 rw[vz hm];refine Wps.vb I.sr I.fr (ha I) λx b ρ1 H1 s1 _ a1 r1=>Wps.vb a1.sr I.fr (Wps.via (λQ E q=>ad q) (hb (I.aft a1))) λy c ρ2 H2 s2 _ a2 r2=>Wps.via (λQ E q=>aa (ac q)) ?_;exact Wps.br ((I.aft a1).aft a2) (Wps.via (λQ E q=>ad q) (Wps.asB (iG rm o1 a2.sr (a2.trel (λ_ q=>q.elim) r1) r2)))
  (λa3 I3=>Wps.via (λQ E q=>aa (bO (aa (ad (ah <|aG q))))) (Wps.vb a3.sr I.fr (Wps.via (λQ E q=>ad q) (hc I3)) λz e ρ4 H4 s4 _ a4 r4=>
   Wps.via (λQ E q=>aa (ac q)) (Wps.truth a4.sr I.fr (Wps.via (λQ E q=>cz q) (iG rm o2 a4.sr (a4.trel (λ_ q=>q.elim) (a3.trel (λ_ q=>q.elim) r2)) r4)) λb s Q E q=>ad (ah <|aG q))))
  λ{ρ3 H3 s3} a3 I3=>Wps.via (λQ E q=>aa (bO (aa (ad (ah <|aG q))))) (Wps.val (tk:=s3.toks) a3.sr (λQ E q=>wpAny_pure q) rfl)
theorem B6{e:Expr}{whole:Sem Value}{f:ai->Hp->Out V}(he:isTrue e env whole=(do let v <-whole;standAt e.pos;holding [v] (truthy v)))(h:SE G F A sc nm env Z f whole) :
  ST G F A sc nm env Z (λσ H=>asB (f σ H)) (isTrue e env whole):=ST.eq he λρ H s σ I=>Wps.truth I.sr I.fr (h I) λb s Q E q=>aa (ac (ad (ah (aG q))))
theorem pb{b:Bool}{s:Shared}(sr:SR G F ρ H s.heap):Wps G F al A ρ H s (pure b) (λ_ _ _ b a=>a=b) Z (.ok b H):=Wps.val (tk:=s.toks) sr (λQ E q=>wpAny_pure q) rfl
theorem Er{e:Expr}{whole:Sem Value}{f:ai->Hp->Out Bool}(h:ST G F A sc nm env Z f (isTrue e env (eval e env))) :
  ST G F A sc nm env Z (λσ H=>(f σ H).vb λb H1=>.ok (!b) H1) (isTrue (.UnaryOp .Not e pos) env whole):=ST.eq (arm_isTrue_UnaryOp ..) λρ H s σ I=>
 Wps.vb I.sr I.fr (h I) λa b ρ1 H1 s1 _ a1 r1=>r1▸pb a1.sr
theorem qm{op:BoolOp}{b:Expr}{g:ai->Hp->Out Bool}(hb:ST G F A sc nm env Z g (isTrue b env (eval b env))):ST G F A sc nm env Z (λσ H=>(g σ H).vb λy H2=>.ok y H2) (allTrue op [b] env):=ST.eq (arm_allTrue_cons ..) λρ H s σ I=>
 Wps.vb I.sr I.fr (hb I) λy y' ρ2 H2 s2 _ a2 r2=>r2▸(match op,y with
  |.And,true=>pb a2.sr
  |.And,false=>pb a2.sr
  |.Or,true=>pb a2.sr
  |.Or,false=>pb a2.sr)
theorem Et{a b:Expr}{whole:Sem Value}{f g:ai->Hp->Out Bool}(ha:ST G F A sc nm env Z f (isTrue a env (eval a env)))(hb:ST G F A sc nm env Z g (isTrue b env (eval b env))) :
  ST G F A sc nm env Z (λσ H=>(f σ H).vb λx H1=>match x with
  |true=>(g σ H1).vb λy H2=>.ok y H2
  |false=>.ok false H1) (isTrue (.BoolOp .And [a,b] pos) env whole):=ST.eq ((arm_isTrue_BoolOp ..).trans (arm_allTrue_cons ..)) λρ H s σ I=>
 Wps.br I (ha I) (λa1 I1=>qm (op:=.And) hb I1) λa1 I1=>pb a1.sr
theorem HF{a b:Expr}{whole:Sem Value}{f g:ai->Hp->Out Bool}(ha:ST G F A sc nm env Z f (isTrue a env (eval a env)))(hb:ST G F A sc nm env Z g (isTrue b env (eval b env))) :
  ST G F A sc nm env Z (λσ H=>(f σ H).vb λx H1=>match x with
  |true=>.ok true H1
  |false=>(g σ H1).vb λy H2=>.ok y H2) (isTrue (.BoolOp .Or [a,b] pos) env whole):=ST.eq ((arm_isTrue_BoolOp ..).trans (arm_allTrue_cons ..)) λρ H s σ I=>
 Wps.br I (ha I) (λa1 I1=>pb a1.sr) λa1 I1=>qm (op:=.Or) hb I1
theorem Eu{b c:Expr}{g k:ai->Hp->Out Bool}(hb:ST G F A sc nm env Z g (isTrue b env (eval b env)))(hc:ST G F A sc nm env Z k (isTrue c env (eval c env))) :
  ST G F A sc nm env Z (λσ H=>(g σ H).vb λy H2=>match y with
   |true=>.ok true H2
   |false=>(k σ H2).vb λz H3=>.ok z H3) (allTrue .Or [b,c] env):=ST.eq (arm_allTrue_cons .Or ..) λρ H s σ I=>Wps.br I (hb I) (λa1 I1=>pb a1.sr) λa1 I1=>qm (op:=.Or) hc I1
theorem Ev{a b c:Expr}{whole:Sem Value}{f g k:ai->Hp->Out Bool}(ha:ST G F A sc nm env Z f (isTrue a env (eval a env)))(hb:ST G F A sc nm env Z g (isTrue b env (eval b env)))(hc:ST G F A sc nm env Z k (isTrue c env (eval c env))) :
  ST G F A sc nm env Z (λσ H=>(f σ H).vb λx H1=>match x with
  |true=>.ok true H1
  |false=>(g σ H1).vb λy H2=>match y with
   |true=>.ok true H2
   |false=>(k σ H2).vb λz H3=>.ok z H3) (isTrue (.BoolOp .Or [a,b,c] pos) env whole):=ST.eq ((arm_isTrue_BoolOp ..).trans (arm_allTrue_cons ..)) λρ H s σ I=>
 Wps.br I (ha I) (λa1 I1=>pb a1.sr) λa1 I1=>Eu hb hc I1
theorem Ew{a b:Expr}{f g:ai->Hp->Out V}(ha:SE G F A sc nm env Z f (eval a env))(hb:SE G F A sc nm env Z g (eval b env)) :
  SE G F A sc nm env Z (λσ H=>(asB (f σ H)).vb λx H1=>match x with
  |true=>asB (g σ H1)|>.vb λy H2=>.ok (.bool y) H2
  |false=>.ok (.bool false) H1) (eval (.BoolOp .And [a,b] pos) env):=SE.eq (arm_eval_BoolOp ..) λρ H s σ I=>
 Wps.br I (Wps.asB (ha I)) (λa1 I1=>Wps.via (λQ E q=>aa (ac (aa (ad (ah <|aG q))))) (Wps.boolV (hb I1)))
  λ{ρ1 H1 s1} a1 I1=>Wps.via (λQ E q=>aa (ac (aa (ad (ah <|aG q))))) (Wps.val (tk:=s1.toks) a1.sr (λQ E q=>wpAny_pure q) aW)
theorem HG{a b:Expr}{f g:ai->Hp->Out V}(ha:SE G F A sc nm env Z f (eval a env))(hb:SE G F A sc nm env Z g (eval b env)) :
  SE G F A sc nm env Z (λσ H=>(asB (f σ H)).vb λx H1=>match x with
  |true=>.ok (.bool true) H1
  |false=>asB (g σ H1)|>.vb λy H2=>.ok (.bool y) H2) (eval (.BoolOp .Or [a,b] pos) env):=SE.eq (arm_eval_BoolOp ..) λρ H s σ I=>
 Wps.br I (Wps.asB (ha I)) (λ{ρ1 H1 s1} a1 I1=>Wps.via (λQ E q=>aa (ac (aa (ad (ah <|aG q))))) (Wps.val (tk:=s1.toks) a1.sr (λQ E q=>wpAny_pure q) aW))
  λa1 I1=>Wps.via (λQ E q=>aa (ac (aa (ad (ah <|aG q))))) (Wps.boolV (hb I1))
theorem Wps.okv{x:Out V}{t:Sem Value}(h:Wps G F al A ρ H s t (RV G F) Z x):Wps G F al A ρ H s t (RV G F) Z (x.vb J.Internal.okv):=by cases x<;>first|exact h|trivial
theorem Ex{t a b:Expr}{k:ai->Hp->Out Bool}{f g:ai->Hp->Out V}(ht:ST G F A sc nm env Z k (isTrue t env (eval t env)))(ha:SE G F A sc nm env Z f (eval a env))(hb:SE G F A sc nm env Z g (eval b env)) :
  SE G F A sc nm env Z (λσ H=>(k σ H).vb λr H1=>match r with
  |true=>(f σ H1).vb okv
  |false=>(g σ H1).vb okv) (eval (.IfExp t a b pos) env):=SE.eq (arm_eval_IfExp ..) λρ H s σ I=>
 Wps.br I (ht I) (λa1 I1=>Wps.okv (ha I1)) λa1 I1=>Wps.okv (hb I1)
theorem vA:lx G F A sc nm env Z (λ_ H=>.ok [] H) (spliced []):=λρ H s σ I=>
 Wps.val (tk:=s.toks) I.sr (λQ E q=>wpAny_pure q) rfl
theorem vB{x:Sem Value}{rest:List (Bool × Sem Value)}{f:ai->Hp->Out V}{g:ai->Hp->Out (List V)}(hx:SE G F A sc nm env Z f x)(hr:lx G F A sc nm env Z g (spliced rest)) :
  lx G F A sc nm env Z (λσ H=>(f σ H).vb λv H1=>(g σ H1).vb λvs H2=>.ok (v::vs) H2) (spliced ((false,x)::rest)):=λρ H s σ I=>by
 show Wps G F al A ρ H s (x>>=λv=>pure [v]>>=λvs=>holding vs (spliced rest)>>=λr=>pure (vs++r)) _ _ _
 exact Wps.vb I.sr I.fr (hx I) λv b ρ1 H1 s1 _ a1 r1=>Wps.via (λQ E q=>aa (ae q)) (Wps.vb a1.sr I.fr (Wps.via (λQ E q=>ad q) (hr (I.aft a1))) λvs bs ρ2 H2 s2 _ a2 r2=>
  Wps.val (tk:=s2.toks) a2.sr (λQ E q=>wpAny_pure q) ⟨v,vs,rfl,a2.trel (λ_ q=>q.elim) r1,r2⟩)
@[elab_as_elim] theorem lM{x:V}{xs:List V}{us:List Value}{h:Heap}{P:List Value->Prop}(r:RTs G F ρ H h (x::xs) us)(k:∀v q,TRel G ρ (F.or (aj ρ H)) h x v->RTs G F ρ H h xs q->P (v::q)):P us:=
 have r:∃v q,us=v::q/\TRel G ρ (F.or (aj ρ H)) h x v/\RTs G F ρ H h xs q:=r
 r.elim λv r=>r.elim λq r=>r.1▸k v q r.2.1 r.2.2
theorem RTs.list{h:Heap}{vs:List V}:∀{us:List Value},vs.any V.isObj=false->RTs G F ρ H h vs us->RelL G (F.or (aj ρ H)) h vs us:=by
 induction vs with
 |nil=>exact λ_ r=>r
 |cons x xs ih=>
  intro us e r;have e:=Bool.or_eq_false_iff.mp e;exact lM r λv q a b=>⟨v,q,rfl,dZ e.1 a,ih e.2 b⟩
theorem RTs.length{h:Heap}{vs:List V}:∀{us:List Value},RTs G F ρ H h vs us->us.length=vs.length:=by
 induction vs with
 |nil=>exact λr=>congrArg List.length r
 |cons x xs ih=>exact λr=>lM r λv q a b=>congrArg (· + 1) (ih b)
theorem yQ{vs:List V}{us:List Value}(I:Inv G F A sc nm env ρ H σ s)(hz:us.length<=aq)(l:RelL G (F.or (aj ρ H)) s.heap vs us) :
  Wps G F al A ρ H s (newTuple us) (RV G F) Z (.ok (.tup vs) H):=
 have af:Aft G F al ρ H s ρ H {s with heap:=s.heap.push {cls:=.type "tuple", data:=.seq us.toArray}}:=.keeps I.sr ⟨_,s.toks,rfl⟩ aA
 ah (wpAny_newTuple ⟨ρ,af,RelL.length l▸hz,_,us,0,rfl,bw I.sr I.ft,Heap.get?_push_size _ rfl,af.relL (λ_ q=>q.elim) l⟩ (LB hz (by decide)))
theorem yR{vs:List V}{us:List Value}(I:Inv G F A sc nm env ρ H σ s)(hz:us.length<=aq)(l:RelL G (F.or (aj ρ H)) s.heap vs us) :
  Wps G F al A ρ H s (newList us) (RV G F) Z (.ok (.lst vs) H):=
 have af:Aft G F al ρ H s ρ H {s with heap:=s.heap.push {cls:=.type "list", data:=.seq us.toArray}}:=.keeps I.sr ⟨_,s.toks,rfl⟩ aA
 ah (wpAny_newList ⟨ρ,af,RelL.length l▸hz,_,us,0,rfl,bw I.sr I.ft,Heap.get?_push_size _ rfl,af.relL (λ_ q=>q.elim) l⟩ (LB hz (by decide)))
theorem RelL.take{X:Av}{h:Heap}{xs:List V}:∀{vs:List Value}{i:Nat},RelL G X h xs vs->RelL G X h (xs.take i) (vs.take i):=by
 induction xs with
 |nil=>intro vs i r;cases (show vs=[]from r);rw[List.take_nil,List.take_nil];rfl
 |cons x xs ih=>
  intro vs i r
  exact bY r λv q a b=>match i with
   |0=>rfl
   |i+1=>⟨v,q.take i,rfl,a,ih b⟩
theorem Ey{l r:Expr}{f g:ai->Hp->Out V}(ha:SE G F A sc nm env Z f (eval l env))(hb:SE G F A sc nm env Z g (eval r env)) :
  SE G F A sc nm env Z (λσ H=>(f σ H).vb λx H1=>(g σ H1).vb λy H2=>c0 x y H2) (eval (.Subscript l r pos) env):=λρ H s σ I=>by
 rw[arm_eval_Subscript];refine Wps.vb I.sr I.fr (ha I) λx b ρ1 H1 s1 _ a1 r1=>?_;have I1:=I.aft a1;refine Wps.vb I1.sr I1.fr (Wps.via (λQ E q=>ad q) (hb I1)) λy c ρ2 H2 s2 _ a2 r2=>?_;have I2:=I1.aft a2;refine Wps.via (λQ E q=>aa (ac q)) (B0 (value:=l) (slice:=r) I2.sr (a2.trel (λ_ q=>q.elim) r1) r2)
def KO(ρ:List (Addr × Addr))(H:Hp)(h:Heap)(b:Int × Int)(v:Value):Prop:=∃a l u,v = .ref a/\h.IsSliceOf a l u .none/\IsPart l (some b.1)/\IsPart u (some b.2)
def KP(ρ:List (Addr × Addr))(H:Hp)(h:Heap)(b:Int)(v:Value):Prop:=∃a l u,v = .ref a/\h.IsSliceOf a l u .none/\IsPart l none/\IsPart u (some b)
theorem qn{lo hi:Expr}{f g:ai->Hp->Out V}(ha:SE G F A sc nm env Z f (eval lo env))(hb:SE G F A sc nm env Z g (eval hi env))(I:Inv G F A sc nm env ρ H σ s) :
  Wps G F al A ρ H s (eval (.Slice (some lo) (some hi) none pos) env) KO Z ((f σ H).vb λy H1=>(g σ H1).vb λz H2=>y.onI (λi=>z.onI (λj=>.ok (i,j) H2) .bad) .bad):=by
 rw[arm_eval_Slice];refine Wps.vb (t:=eval lo env) I.sr I.fr (ha I) λx b ρ1 H1 s1 _ a1 r1=>?_;refine Wps.vb a1.sr I.fr (Wps.via (λQ E q=>ad (m:=eval hi env) q) (hb (I.aft a1))) λy c ρ2 H2 s2 _ a2 r2=>?_;exact cg r1 trivial λi t=>cg r2 trivial λj u=>aa (ad (ae (ah (wpAny_newObj_type ⟨ρ2,.keeps a2.sr ⟨_,s2.toks,rfl⟩ aA,_,_,_,rfl,Heap.IsSliceOf.new _ _ _ _,.int i t,.int j u⟩))))
theorem vC{hi:Expr}{g:ai->Hp->Out V}(hb:SE G F A sc nm env Z g (eval hi env))(I:Inv G F A sc nm env ρ H σ s) :
  Wps G F al A ρ H s (eval (.Slice none (some hi) none pos) env) KP Z ((g σ H).vb λz H2=>z.onI (λj=>.ok j H2) .bad):=by
 rw[arm_eval_Slice];refine Wps.via (λQ E q=>aa (ae q)) (Wps.vb I.sr I.fr (Wps.via (λQ E q=>ad (m:=eval hi env) q) (hb I)) λy c ρ2 H2 s2 _ a2 r2=>?_);exact cg r2 trivial λj u=>aa (ad (ae (ah (wpAny_newObj_type ⟨ρ2,.keeps a2.sr ⟨_,s2.toks,rfl⟩ aA,_,_,_,rfl,Heap.IsSliceOf.new _ _ _ _,.none,.int j u⟩))))
theorem oz{n:Nat}{i:Int}(h:0<=i):clipAt n i=min i.toNat n:=by
 have:=clipAt_nat n i.toNat;rwa[Int.toNat_of_nonneg h]at this
theorem vD{l:List α}{i j:Nat}:(l.take (min j l.length)).drop (min i l.length)=(l.take j).drop i:=by
 rw[show l.take (min j l.length)=l.take j by rw[<-List.take_take,List.take_length]]
 by_cases h:i<=l.length
 ·rw[My h]
 ·have h:=Mu (Nat.not_le.mp h);rw[Nat.min_eq_right h,List.drop_eq_nil_of_le (List.length_take_le' _ _),List.drop_eq_nil_of_le (LB (List.length_take_le' _ _) h)]
theorem oB{bs:List UInt8}{i j:Int}(h1:0<=i)(h2:0<=j):KBy.picked bs.toArray (some i) (some j)=((bs.take j.toNat).drop i.toNat).toArray:=by
 rw[KBc.picked_eq];show((bs.toArray.toList.drop (clipAt bs.length i)).take (clipAt bs.length j - clipAt bs.length i)).toArray=_;rw[oz h1,oz h2,<-List.drop_take];exact congrArg List.toArray vD
theorem B7{p:Pos}{a lo hi:Expr}{bs:List UInt8}{t:Tok}{sa:Addr}{l u:Value}{i j:Int}(sr:SR G F ρ H s.heap)(hL:bs.length<=aq)(hs:s.heap.IsSliceOf sa l u .none)(pl:IsPart l (some i))(pu:IsPart u (some j))(h1:0<=i)(h2:0<=j) :
  Wps G F al A ρ H s (subscriptTail a (.Slice (some lo) (some hi) none p) (.bytes bs.toArray t) (.ref sa)) (RV G F) Z (.ok (.byt ((bs.take j.toNat).drop i.toNat)) H):=
 (gK (.Slice (some lo) (some hi) none p) (.bytes bs.toArray t) (.ref sa)).elim λops ho=>
  ah <|tail_any (value:=a) (slice:=.Slice (some lo) (some hi) none p) (typeIs_bytes _ _ _) FB.slot_bytes_getitem.lookup (getItem_meets (typeIs_bytes _ _ _) (by decide) FB.slot_bytes_getitem FB.entry_bytes_getitem (FB.args_bytes_getitem_2 _ _) (KBc.meets_slice2 bs.toArray t _ pl pu)
   ⟨hs,LB (KBc.size_picked_le _ _ _) (LB hL (by decide)),λt' k=>⟨ρ,.toks sr k,LB (List.length_drop▸Nat.sub_le _ _) (LB (List.length_take_le' _ _) hL),t',congrArg (Value.bytes · t') (oB h1 h2)⟩⟩) ho
theorem B8{p:Pos}{a hi:Expr}{l:List V}{vs:List Value}{la sa:Addr}{m:Nat}{x u:Value}{j:Int}(sr:SR G F ρ H s.heap)(ft:∀a,F a->∃o,s.heap.get? a=some o)(hL:l.length<=aq)(g:s.heap.get? la=some (bD vs m))(hl:RelL G (F.or (aj ρ H)) s.heap l vs)
  (hs:s.heap.IsSliceOf sa x u .none) (pl:IsPart x none) (pu:IsPart u (some j)) (h2:0<=j) :
  Wps G F al A ρ H s (subscriptTail a (.Slice none (some hi) none p) (.ref la) (.ref sa)) (RV G F) Z (.ok (.lst (l.take j.toNat)) H):=
 have hli:s.heap.IsList la vs.toArray:=aY g
 have e3:slicePick vs.toArray none (some j) none=(vs.take j.toNat).toArray:=by
  have:=slicePick_upto' vs.toArray j.toNat;rwa[Int.toNat_of_nonneg h2]at this
 have af:Aft G F al ρ H s ρ H {s with heap:=s.heap.push {cls:=.type "list", data:=.seq (vs.take j.toNat).toArray}}:=.keeps sr ⟨_,s.toks,rfl⟩ aA
 (gK (.Slice none (some hi) none p) (.ref la) (.ref sa)).elim λops ho=>
  ah <|tail_any (value:=a) (slice:=.Slice none (some hi) none p) hli.typeIs slot_list_getitem.lookup (wpAny_getItem_list_slice hli hs pl pu .none (λe=>(by cases e))
   (by rw[e3];exact⟨ρ,af,LB (List.length_take_le' _ _) hL,_,vs.take j.toNat,0,rfl,bw sr ft,Heap.get?_push_size _ rfl,af.relL (λ_ q=>q.elim) (RelL.take hl)⟩)
   (LB (by rw[List.size_toArray,RelL.length hl];exact hL) (show aq<=sizeLine by decide))) ho
theorem HI{a lo hi:Expr}{e f g:ai->Hp->Out V}{p q:Pos}(hx:SE G F A sc nm env Z e (eval a env))(ha:SE G F A sc nm env Z f (eval lo env))(hb:SE G F A sc nm env Z g (eval hi env)) :
  SE G F A sc nm env Z (λσ H=>(e σ H).vb λx H1=>((f σ H1).vb λy H2=>(g σ H2).vb λz H3=>y.onI (λi=>z.onI (λj=>.ok (i,j) H3) .bad) .bad).vb λw H4=>n7 x w.1 w.2 H4) (eval (.Subscript a (.Slice (some lo) (some hi) none p) pos) env):=λρ H s σ I=>by
 rw[arm_eval_Subscript];refine Wps.vb I.sr I.fr (hx I) λx b ρ1 H1 s1 _ a1 r1=>?_;refine Wps.vb a1.sr I.fr (Wps.via (λQ E q=>ad q) (qn ha hb (I.aft a1))) λy c ρ2 H2 s2 _ a2 r2=>?_;obtain⟨sa,l,u,rfl,hs,pl,pu⟩:=r2;refine Wps.via (λQ E q=>aa (ac q)) (Wps.guard λhz=>Jp hz λz1 z2 z3 z4=>?_);exact jf (a2.trel (λ_ q=>q.elim) r1) trivial λbs t hL=>B7 a2.sr hL hs pl pu z1 z3
theorem B9{a hi:Expr}{e g:ai->Hp->Out V}{p q:Pos}(hx:SE G F A sc nm env Z e (eval a env))(hb:SE G F A sc nm env Z g (eval hi env)) :
  SE G F A sc nm env Z (λσ H=>(e σ H).vb λx H1=>((g σ H1).vb λz H3=>z.onI (λj=>.ok j H3) .bad).vb λw H4=>mw x w H4) (eval (.Subscript a (.Slice none (some hi) none p) pos) env):=λρ H s σ I=>by
 rw[arm_eval_Subscript];refine Wps.vb I.sr I.fr (hx I) λx b ρ1 H1 s1 _ a1 r1=>?_;refine Wps.vb a1.sr I.fr (Wps.via (λQ E q=>ad q) (vC hb (I.aft a1))) λy c ρ2 H2 s2 _ a2 r2=>?_;obtain⟨sa,l,u,rfl,hs,pl,pu⟩:=r2;refine Wps.via (λQ E q=>aa (ac q)) (Wps.guard λhz=>BY hz λz3 z4=>?_);exact wL (a2.trel (λ_ q=>q.elim) r1) trivial λbs la vs m hL _ g hl=>B8 a2.sr ((I.aft a1).aft a2).ft hL g hl hs pl pu z3
end
noncomputable def S'(l:List Nat):PySem.Str:=⟨l.toArray⟩
structure Bg(G:Cx):Prop where
 bf:Bf G
 inB:G.K.In G.B
 mods:∃o,G.B.get? sysModules=some o
 cls:∀c,c<3->plainGet G.K (G.ca c) (S' [])=true/\hasDictIn G.K (G.ca c)=true/\plainOver G.K (G.ca c)=true/\findIn G.K (.ref (G.ca c)) "__setattr__" = some (some (.builtin "object.__setattr__"))
 att:∀c k,gp c k=true->findIn G.K (.ref (G.ca c)) (S' (G.an k))=some none
 inj:∀k l,k<8->l<8->G.an k=G.an l->k=l
theorem dJ{c k:Nat}(h:gp c k=true):c<3/\k<8:=match c,h with
 |0,h=>⟨by decide,Nat.lt_trans (of_decide_eq_true h) (by decide)⟩
 |1,h=>⟨by decide,of_decide_eq_true h▸by decide⟩
 |2,h=>⟨by decide,of_decide_eq_true (LD.mp h).2⟩
theorem Bg.inH{h:Heap}(b:Bg G)(sr:SR G F ρ H h):G.K.In h:=λx o e=>sr.base x o (b.inB x o e)
section
variable{sc:Scope}{nm:List Str}{env:Env}{σ:ai}{n:Nat}{pos:Pos}
theorem Ez{es:List Expr}{f:ai->Hp->Out (List V)}{k:Nat}{ctx:Nat}(h:lx G F A sc nm env Z f (spliced (backTo pos (starEach es env))))(hz:es.length<=1000)(hl:∀σ H vs H',f σ H = .ok vs H'->vs.length<=1000) :
  SE G F A sc nm env Z (λσ H=>(f σ H).vb λvs H1=>guard (!vs.any V.isObj) (.ok (.tup vs) H1)) (eval (.Tuple es k pos) env):=SE.eq (arm_eval_Tuple ..) λρ H s σ I=>
 Wps.via (λQ E q=>aa (ac q)) (Wps.vb I.sr I.fr (h I) λus vs ρ1 H1 s1 e1 a1 r1=>Wps.guard λhg=>
  yQ (I.aft a1) (LB (RTs.length r1▸hl _ _ _ _ e1) (by decide)) (RTs.list (Mv _▸hg) r1))
theorem jn{h:Heap}:h.get? h.objs.size=none:=by
 cases z:h.get? h.objs.size with
 |none=>rfl
 |some o=>exact absurd (Heap.lt_size z) (Mg _)
theorem r7{o:O}{ob:Obj}{t:Sem Value}(I:Inv G F A sc nm env ρ H σ s)(ha:aI o (s.heap.objs.size,0)=[s.heap.objs.size])
  (hr:∀X',Ext al (F.or (aj ρ H)) X' s.heap (s.heap.push ob)->RelO G (ρ++[(s.heap.objs.size,0)]) X' (s.heap.push ob) (s.heap.objs.size,0) o)
  (ht:∀(Q:Value->Shared->Prop)(E:Value->Shared->Prop),Q (.ref s.heap.objs.size) {s with heap:=s.heap.push ob}->wpAny (Md G) A t Q E s):Wps G F al A ρ H s t (RV G F) Z (.ok (.obj H.length) (H++[o])):=
 have hm:∀a,a∈aI o (s.heap.objs.size,0)->a=s.heap.objs.size:=λa m=>LJ.mp (ha▸m);have hn:¬ (F.or (aj ρ H)) s.heap.objs.size:=bw I.sr I.ft
 ah (ht _ _ ⟨ρ++[(s.heap.objs.size,0)],Aft.own I.sr ⟨_,s.toks,rfl⟩ aA (λa m=>hm a m▸⟨jn,λf=>hn (.inl f)⟩)
  (hr _ ⟨λb o e _=>aA b o e,λb o e=>⟨o,aA b o e⟩,λa x=>x.elim (λf=>.inl (.inl f)) λw=>((dX I.sr.len).mp w).elim (λw=>.inl (.inr w)) λm=>.inr (hm a m▸jn)⟩),_,by rw[<-I.sr.len];exact LO,rfl⟩)
theorem yS{vs:List V}{us:List Value}(I:Inv G F A sc nm env ρ H σ s)(hz:us.length<=aq)(l:RelL G (F.or (aj ρ H)) s.heap vs us) :
  Wps G F al A ρ H s (newList us) (RV G F) Z (.ok (.obj H.length) (H++[.lst vs])):=
 r7 I rfl (λX' ext=>⟨RelL.length l▸hz,us,0,Heap.get?_push_size _ rfl,RelL.ext G ext (λ_ m=>m.elim) l⟩) λQ E q=>wpAny_newList q (LB hz (by decide))
theorem Ca{own:Bool}{vs:List V}{us:List Value}(I:Inv G F A sc nm env ρ H σ s)(hz:us.length<=aq)(l:RelL G (F.or (aj ρ H)) s.heap vs us) :
  Wps G F al A ρ H s (newList us) (RV G F) Z (mk own vs H):=match own with
 |true=>yS I hz l
 |false=>yR I hz l
theorem EA{own:Bool}{es:List Expr}{f:ai->Hp->Out (List V)}(h:lx G F A sc nm env Z f (spliced (backTo pos (starEach es env))))(hl:∀σ H vs H',f σ H = .ok vs H'->vs.length<=1000) :
  SE G F A sc nm env Z (λσ H=>(f σ H).vb λvs H1=>guard (!vs.any V.isObj) (mk own vs H1)) (eval (.List es pos) env):=SE.eq (arm_eval_List ..) λρ H s σ I=>
 Wps.via (λQ E q=>aa (ac q)) (Wps.vb I.sr I.fr (h I) λus vs ρ1 H1 s1 e1 a1 r1=>Wps.guard λhg=>
  Ca (I.aft a1) (LB (RTs.length r1▸hl _ _ _ _ e1) (by decide)) (RTs.list (Mv _▸hg) r1))
theorem Cb:SE G F A sc nm env Z (λ_ H=>.ok (.obj H.length) (H++[.dct []])) (eval (.Dict [] [] pos) env):=λρ H s σ I=>
 r7 I rfl (λX' _=>⟨⟨Mr _,List.nodup_nil⟩,[],0,Heap.get?_push_size _ rfl,rfl⟩) λQ E q=>wpAny_Dict_empty q
theorem lN{P:Params}{k l:List Nat}{e:DictEntry}(x:KeyIs P k e):e.key.isStr (S' l)=decide (k=l):=x.1.elim λt h=>by
 rw[h];exact mC k l
theorem r8{P:Params}{k:List Nat}{e:DictEntry}(x:KeyIs P k e):e.refKey=false:=x.1.elim λt h=>by
 unfold DictEntry.refKey;rw[h]
@[elab_as_elim] theorem gr{X:Av}{h:Heap}{p:Nat × V}{xs:List (Nat × V)}{es:List DictEntry}{P:List DictEntry->Prop}(r:TRelA G ρ X h (p::xs) es)(k:∀e q,KeyIs G.w.params (G.an p.1) e->TRel G ρ X h p.2 e.val->TRelA G ρ X h xs q->P (e::q)):P es:=
 have r:∃e q,es=e::q/\KeyIs G.w.params (G.an p.1) e/\TRel G ρ X h p.2 e.val/\TRelA G ρ X h xs q:=r
 r.elim λv r=>r.elim λq r=>r.1▸k v q r.2.1 r.2.2.1 r.2.2.2
theorem lO{X:Av}{h:Heap}{fs:List (Nat × V)}:∀{es:List DictEntry},RelA G X h fs es->TRelA G ρ X h fs es:=by
 induction fs with
 |nil=>exact λr=>r
 |cons p fs ih=>exact λr=>(show ∃e q,_=e::q/\KeyIs G.w.params (G.an p.1) e/\Rel G X h p.2 e.val/\RelA G X h fs q from r).elim λe w=>w.elim λq w=>⟨e,q,w.1,w.2.1,aF w.2.2.1,ih w.2.2.2⟩
theorem tU{X:Av}{h:Heap}{fs:List (Nat × V)}:∀{es:List DictEntry},TRelA G ρ X h fs es->es.length=fs.length:=by
 induction fs with
 |nil=>exact λr=>congrArg List.length r
 |cons p fs ih=>exact λr=>gr r λe q _ _ d=>congrArg (· + 1) (ih d)
theorem oC{X:Av}{h:Heap}{fs:List (Nat × V)}:∀{es:List DictEntry},TRelA G ρ X h fs es->es.any (·.refKey)=false:=by
 induction fs with
 |nil=>intro es r;cases (show es=[]from r);rfl
 |cons p fs ih=>exact λr=>gr r λe q b _ d=>Bool.or_eq_false_iff.mpr ⟨r8 b,ih d⟩
theorem qo{X:Av}{h:Heap}{k:Nat}(bg:Bg G)(hk:k<8){c:Nat}{x:V}{fs:List (Nat × V)}:∀{es:List DictEntry},(fs.all λp=>gp c p.1)=true->TRelA G ρ X h fs es->Ba fs k=some x->
  ∃e,es.find? (·.key.isStr (S' (G.an k)))=some e/\TRel G ρ X h x e.val:=by
 induction fs with
 |nil=>exact λ_ _ e=>nn e
 |cons p fs ih=>
  intro es hv r;have hv:=LD.mp hv;refine gr r λen q b cc d e=>?_;rw[List.find?_cons,lN b]
  by_cases z:p.1=k
  ·rw[decide_eq_true (congrArg G.an z)];exact⟨en,rfl,LM ((if_pos z).symm.trans e)▸cc⟩
  ·rw[decide_eq_false λw=>z (bg.inj p.1 k (dJ hv.1).2 hk w)];exact ih hv.2 d ((if_neg z).symm.trans e)
theorem tV{X:Av}{h:Heap}{x:V}{v:Value}(r:TRel G ρ X h x v):handedIn v=true:=oq r rfl (λ_=>rfl) (λ_ _=>rfl) (λ_ _=>rfl) (λ_ _=>rfl) λ_=>rfl
theorem oE{c k:Nat}{x dx:Addr}{es:List DictEntry}{m:Nat}{fs:List (Nat × V)}(bg:Bg G)(sr:SR G F ρ H s.heap)(ho:gp c k=true)(hv:(fs.all λp=>gp c p.1)=true)
  (g:s.heap.get? x=some (instObj (G.ca c) dx)) (gd:s.heap.get? dx=some (dictOf es m)) (l:TRelA G ρ (F.or (aj ρ H)) s.heap fs es) :
  Wps G F al A ρ H s (getAttr (.ref x) (S' (G.an k)) true) (RV G F) Z (optV (Ba fs k) H):=
 Wps.optV sr λV0 ha=>(qo bg (dJ ho).2 hv l ha).elim λe w=>
  have hl:lookIn (S' (G.an k)) (dictOf es m)=some (some e.val):=by rw[lookIn_dict];unfold getL;rw[w.1]
  have hI:InstAt s.heap x (instObj (G.ca c) dx) (G.ca c) (some (dictOf es m)):=⟨g,rfl,rfl,gd⟩
  ⟨e.val,s.toks+1,w.2,λQ E q=>get_value (bg.inH sr) hI (plainGet_of (bg.cls c (dJ ho).1).1).1 (findObj_own (bg.cls c (dJ ho).1).2.1 (bg.att c k ho) rfl hl) (tV w.2) q⟩
@[elab_as_elim] theorem wR{β:Type}{X:Av}{h:Heap}{a:V}{x:Value}{f:Nat->List (Nat × V)->β}{d:β}{P:Value->β->Prop}(r:TRel G ρ X h a x)(h0:P x d)
  (h1:∀c fs b dx es n,(fs.all λp=>gp c p.1)=true->¬X b->¬X dx->h.get? b=some (instObj (G.ca c) dx)->h.get? dx=some (dictOf es n)->RelA G X h fs es->P (.ref b) (f c fs)):P x (a.onR f d):=
 kR (P:=λa b=>TRel G ρ X h a x->P x b) (λ_=>h0) (λc fs r=>
  have r:(fs.all λp=>gp c p.1)=true/\∃b dx es n,x = .ref b/\¬X b/\¬X dx/\h.get? b=some (instObj (G.ca c) dx)/\h.get? dx=some (dictOf es n)/\RelA G X h fs es:=r
  r.2.elim λb w=>w.elim λdx w=>w.elim λes w=>w.elim λn w=>w.1▸h1 c fs b dx es n r.1 w.2.1 w.2.2.1 w.2.2.2.1 w.2.2.2.2.1 w.2.2.2.2.2) r
theorem yT{k:Nat}{b:V}{v:Value}(bg:Bg G)(sr:SR G F ρ H s.heap)(r:TRel G ρ (F.or (aj ρ H)) s.heap b v) :
  Wps G F al A ρ H s (getAttr v (S' (G.an k)) true) (RV G F) Z (aX b k H):=
 wR (P:=λv o=>Wps G F al A ρ H s (getAttr v (S' (G.an k)) true) (RV G F) Z o) r (Bh sr r (λ_=>trivial) λi q o _ _ ro=>
  D8 (P:=λo y=>RelO G ρ (F.or (aj ρ H)) s.heap q o->Wps G F al A ρ H s (getAttr (.ref q.1) (S' (G.an k)) true) (RV G F) Z y) (λ_=>trivial) (λc fs ro=>Wps.guard λhk=>ro.2.2.elim λes w=>w.elim λn w=>oE bg sr hk ro.1.1 ro.2.1 w.1 w.2) ro)
  λc fs b dx es n z _ _ g gd l=>Wps.guard λhk=>oE bg sr hk z g gd (lO l)
theorem oF{o:Expr}{a:PySem.Str}{t:Sem Value}(h:∀id p q,o≠.Call (.Name id p) [] [] q\/(id != "super")=true):attributeBase o a env t=t:=by
 cases o with
 |Call f as ks q=>
  cases f with
  |Name id p=>
   cases as with
   |nil=>
    cases ks with
    |nil=>
     have e:(id != "super")=true:=(h id p q).elim (λw=>absurd rfl w) λw=>w
     delta attributeBase
     dsimp only;rw[if_pos (by rw[e];rfl)]
    |cons=>rfl
   |cons=>rfl
  |_=>rfl
 |_=>rfl
theorem Cc{o:Expr}{k:Nat}{f:ai->Hp->Out V}(bg:Bg G)(hb:∀id p q,o≠.Call (.Name id p) [] [] q\/(id != "super")=true)(h:SE G F A sc nm env Z f (eval o env)) :
  SE G F A sc nm env Z (λσ H=>(f σ H).vb λx H1=>(aX x k H1).vb λv H2=>.ok v H2) (eval (.Attribute o (S' (G.an k)) pos) env):=SE.eq (arm_eval_Attribute ..) λρ H s σ I=>by
 rw[oF hb]
 exact Wps.vb I.sr I.fr (h I) λv b ρ1 H1 s1 e1 a1 r1=>Wps.via (λQ E q=>aa (ac q)) (Wps.vb a1.sr I.fr (Wps.via (λQ E q=>ad q) (yT bg a1.sr r1)) λw c ρ2 H2 s2 e2 a2 r2=>
  Wps.val (tk:=s2.toks) a2.sr (λQ E q=>wpAny_bind (wpAny_letTemporaryGo (wpAny_pure q))) r2)
end
def tW(G:Cx)(h:Heap):Prop:=∀b o,G.B.get? b=some o->h.get? b=some o
theorem Wps.vbt{t:Sem α}{k:α->Sem γ}{t':Sem γ}{R:List (Addr × Addr)->Hp->Heap->β->α->Prop}{R':List (Addr × Addr)->Hp->Heap->δ->γ->Prop}{x:Out β}{f:β->Hp->Out δ}
  (ht:∀(Q:γ->Shared->Prop)(E:Value->Shared->Prop),wpS (Md G) A t (λa s'=>tW G s'.heap/\wpS (Md G) A (k a) Q E s') E s->wpS (Md G) A t' Q E s)
  (sr:SR G F ρ H s.heap) (fr:∀b,b∈frs A->F b) (h:Wps G F M A ρ H s t R Z x)
  (hk:∀a b ρ1 H1 s1,x = .ok b H1->Aft G F M ρ H s ρ1 H1 s1->R ρ1 H1 s1.heap b a->Wps G F M A ρ1 H1 s1 (k a) R' Z (f b H1)) :
  Wps G F M A ρ H s t' R' Z (x.vb f):=by
 cases x with
 |bad=>trivial
 |exc H1=>trivial
 |ok b H1=>
  show Wps G F M A ρ H s t' R' Z (f b H1);have h':wpS (Md G) A t (λa s'=>∃ρ',Aft G F M ρ H s ρ' H1 s'/\R ρ' H1 s'.heap b a) (λ_ _=>False) s:=h;generalize hf:f b H1=r at hk
  cases r with
  |bad=>trivial
  |ok d H2=>
   refine ht _ _ (ag h' (λa s1 q=>?_) λ_ _ q=>q.elim);obtain⟨ρ1,af,r⟩:=q;have z:=hk a b ρ1 H1 s1 rfl af r;rw[hf]at z;exact⟨af.sr.base,ag z (λc s2 q=>let ⟨ρ2,af2,r2⟩:=q;⟨ρ2,af.trans af2,r2⟩) λ_ _ q=>q⟩
  |exc H2=>
   refine ht _ _ (ag h' (λa s1 q=>?_) λ_ _ q=>q.elim);obtain⟨ρ1,af,r⟩:=q;have z:=hk a b ρ1 H1 s1 rfl af r;rw[hf]at z;exact⟨af.sr.base,ag z (λ_ _ q=>q) λe s2 q=>let ⟨st,p,q⟩:=q;⟨st,p,q.trans af sr fr⟩⟩
structure Gl(G:Cx):Prop where
 mg:∃mg,G.B.Ns mainGlobals mg
 mb:∃mb,G.B.Ns builtinsNs mb/\∀x:PySem.Str,x ≠ "__name__" -> mb x=bootBuiltins x
theorem Ns.up{h h':Heap}{a:Addr}{m:PySem.Str->Option Value}(x:h.Ns a m)(k:∀b o,h.get? b=some o->h'.get? b=some o):h'.Ns a m:=by
 obtain⟨o,es,ep,g,r⟩:=x;exact⟨o,es,ep,k _ _ g,r⟩
section
variable{sc:Scope}{nm:List Str}{env:Env}{σ:ai}{pos p:Pos}{x:PySem.Str}
theorem EnvR.isGlob{h:Heap}(e:EnvR G F ρ H sc nm env σ h)(hx:sc.names.lookup x=some .globalImplicit):env.kindOf x=some .globalImplicit:=by
 rcases e.names x _ hx with h|⟨h,_⟩
 ·exact h
 ·cases h
theorem jT{v:Value}{Q:Value->Shared->Prop}{E:Value->Shared->Prop}(bg:Bg G)(gl:Gl G)(I:Inv G F A sc nm env ρ H σ s)(hx:sc.names.lookup x=some .globalImplicit)(hd:(x==("__debug__" : Str))=false)
  (hv:nsIn G.K mainGlobals x=some (some v)) (h:Q v s):wpAny (Md G) A (eval (.Name x p) env) Q E s:=by
 obtain⟨mg,hm⟩:=gl.mg;have hm':=Ns.up hm I.sr.base;refine Name_function_global I.ev.kind (I.ev.isGlob hx) (loadGlobal_global (mg:=mg) ?_ (mg_of (bg.inH I.sr) hm' hv) h) hd;rw[I.ev.glob];exact hm'
theorem vE{v:Value}{Q:Value->Shared->Prop}{E:Value->Shared->Prop}(bg:Bg G)(gl:Gl G)(I:Inv G F A sc nm env ρ H σ s)(hx:sc.names.lookup x=some .globalImplicit)(hd:(x==("__debug__" : Str))=false)
  (hv:nsIn G.K mainGlobals x=some none) (hb:bootBuiltins x=some v) (hn:x ≠ "__name__") (h:Q v s):wpAny (Md G) A (eval (.Name x p) env) Q E s:=by
 obtain⟨mg,hm⟩:=gl.mg;obtain⟨mb,hmb,hb'⟩:=gl.mb;have hm':=Ns.up hm I.sr.base;refine Name_function_global I.ev.kind (I.ev.isGlob hx) (loadGlobal_builtin (mg:=mg) (mb:=mb) ?_ (mg_none_of (bg.inH I.sr) hm' hv) ?_ ((hb' x hn).trans hb) h) hd
 ·rw[I.ev.glob];exact hm'
 ·rw[I.ev.bui];exact Ns.up hmb I.sr.base
def Pl(args:List (Bool × Sem Value)):Prop:=args.any (·.1)=false
def mE(G:Cx)(f:Value):Prop:=∀h,tW G h->∃k,(k=Keeper.frame\/k=Keeper.machine\/k=Keeper.boundFrame)/\Looks (Md G) h (keeperOf f) k
theorem bZ(id:String):mE G (.builtin id):=λh _=>⟨.machine,.inr (.inl rfl),Looks.of_pure rfl⟩
theorem iH(T:String):mE G (.type T):=λh _=>⟨.machine,.inr (.inl rfl),Looks.of_pure rfl⟩
theorem mG{f:Value}(bg:Bg G)(hk:keepIn G.K f=true):mE G f:=λh x=>keeps_K hk h λb o e=>x b o (bg.inB b o e)
theorem mH{f:Value}{args:List (Bool × Sem Value)}{Q:Args->Shared->Prop}{E:Value->Shared->Prop}{Mo:Model}(hp:Pl args)(h:wpS Mo A (spliced args) (λvs s'=>Q ⟨vs,[]⟩ s') E s):wpS Mo A (evalArgs f true args []) Q E s:=by
 cases args with
 |nil=>
  unfold evalArgs;show wpS Mo A (spliced []>>=_) Q E s;refine aa (ag h (λvs s' h'=>?_) λ_ _ x=>x);refine ad ?_;exact aa (ae (aa (ae (ae h'))))
 |cons a r=>
  obtain⟨b,t⟩:=a
  have:b=false:=by
   unfold Pl at hp;simp only[List.any_cons,Bool.or_eq_false_iff]at hp;exact hp.1
  subst this;unfold evalArgs;show wpS Mo A (spliced ((false,t)::r)>>=_) Q E s;refine aa (ag h (λvs s' h'=>?_) λ_ _ x=>x);refine ad ?_;exact aa (ae (aa (ae (ae h'))))
theorem Bj{f:Value}{first:List Value}{args:List (Bool × Sem Value)}{Q:Value->Shared->Prop}{E:Value->Shared->Prop}(hp:Pl args)(hk:mE G f)
  (h:wpS (Md G) A (spliced args) (λvs s₁=>tW G s₁.heap/\wpS (Md G) A (call f (first++vs)) Q E s₁) E s):wpS (Md G) A (callWith pos f first args []) Q E s:=by
 unfold callWith;refine aa (ad (mH hp (ag h (λvs s₁ h₁=>aa (ac ?_)) λ_ _ x=>x)));obtain⟨k,hk',L⟩:=hk _ h₁.1;have hp':args.any (·.1)=false:=hp;refine aa (ah (L.here ?_));rw[hp']
 have tail:∀{t:Sem Value},wpS (Md G) A t Q E s₁->wpS (Md G) A (t>>=λr=>holding [r] point>>=λ_=>pure r) Q E s₁:=
  λht=>aa (ag ht (λr s₂ hr=>aa (ad (oj (ae hr)))) λ_ _ x=>x)
 have marked (mk:Value):wpS (Md G) A (callMarked mk f (first++vs) []) Q E s₁:=by unfold callMarked;exact yE h₁.2
 have two (mk:Value):wpS (Md G) A (if args.length+2*([]:List (Option Str × Sem Value)).length > 30 then(call f (first++vs) []>>=λr=>holding [r] point>>=λ_=>pure r)else(callMarked mk f (first++vs) []>>=λr=>holding [r] point>>=λ_=>pure r)) Q E s₁:=by
  by_cases hc:args.length+2*([]:List (Option Str × Sem Value)).length > 30
  ·rw[if_pos hc];exact tail h₁.2
  ·rw[if_neg hc];exact tail (marked mk)
 rcases hk' with rfl|rfl|rfl<;>first|exact tail h₁.2|exact two plainCall|exact two callOfAMethodObject
theorem c9{f:Value}{first:List Value}{args:List (Bool × Sem Value)}{g:Out (List V)}{k:List V->Hp->Out V}(hp:Pl args)(hk:mE G f)(I:Inv G F A sc nm env ρ H σ s)
  (ha:Wps G F al A ρ H s (spliced args) (RTs G F) Z g)
  (hc:∀us vs ρ1 H1 s1,g = .ok vs H1->Aft G F al ρ H s ρ1 H1 s1->Inv G F A sc nm env ρ1 H1 σ s1->RTs G F ρ1 H1 s1.heap vs us->Wps G F al A ρ1 H1 s1 (call f (first++us)) (RV G F) Z (k vs H1)) :
  Wps G F al A ρ H s (callWith pos f first args []) (RV G F) Z (g.vb k):=by
 refine Wps.vbt (t:=spliced args) (k:=λus=>call f (first++us)) (λQ E q=>?_) I.sr I.fr ha λus vs ρ1 H1 s1 e1 a1 r1=>hc us vs ρ1 H1 s1 e1 a1 (I.aft a1) r1;exact Bj hp hk q
end
theorem da{h:Heap}{a:Addr}{o:Obj}{f:Obj->Obj}(g:h.get? a=some o)(hf:(f o).isFreed=false):(h.update a f).get? a=some (f o):=Heap.get?_update_self f g hf
theorem eX{h:Heap}{a b:Addr}{f:Obj->Obj}(n:b≠a):(h.update a f).get? b=h.get? b:=Heap.get?_update_ne _ _ _ _ n
theorem jo{h:Heap}:RV G F ρ H h .none .none:=rfl
theorem vF{H:Hp}:∀{i:Nat}{o:O},ak H i=some o->∀(o':O)(j:Nat),ak (au H i o') j=if j=i then some o' else ak H j:=by
 induction H with
 |nil=>exact λh=>nn h
 |cons x r ih=>
  intro i o h o' j
  cases i with
  |zero=>cases j with
   |zero=>rfl
   |succ j=>exact(if_neg (Nat.succ_ne_zero j)).symm
  |succ i=>cases j with
   |zero=>exact(if_neg (Nat.succ_ne_zero i).symm).symm
   |succ j=>
    refine(ih h o' j).trans ?_
    by_cases e:j=i
    ·rw[if_pos e,if_pos (congrArg (· + 1) e)]
    ·rw[if_neg e,if_neg λw=>e (Nat.succ.inj w)];rfl
theorem r9{q:Addr × Addr}{o o':O}{i:Nat}(hq:ρ[i]? = some q)(ho:ak H i=some o){b:Addr}(w:aj ρ (au H i o') b):b∈aI o' q\/∃j q' x,j≠i/\ρ[j]? = some q'/\ak H j=some x/\b∈aI x q':=
 w.elim λj w=>w.elim λq' w=>w.elim λx w=>by
  have g:=(vF ho o' j).symm.trans w.2.1
  by_cases e:j=i
  ·cases (if_pos e).symm.trans g;cases hq.symm.trans (e▸w.1);exact .inl w.2.2
  ·exact .inr ⟨j,q',x,e,w.1,(if_neg e).symm.trans g,w.2.2⟩
theorem Aft.write{q:Addr × Addr}{o o':O}{i:Nat}{a:Addr}{x y:Obj}(sr:SR G F ρ H s.heap)(sm:Same s s')(hq:ρ[i]? = some q)(ho:ak H i=some o)(ha:a∈aI o q)
  (k:∀b,b≠a->s'.heap.get? b=s.heap.get? b) (hx:s.heap.get? a=some x) (hy:s'.heap.get? a=some y)
  (sub:∀a∈aI o' q,a∈aI o q)
  (hr:(∀v u,TRel G ρ (F.or (aj ρ H)) s.heap v u->TRel G ρ (F.or (aj ρ (au H i o'))) s'.heap v u)->(∀v u,Rel G (F.or (aj ρ H)) s.heap v u->Rel G (F.or (aj ρ (au H i o'))) s'.heap v u)->RelO G ρ (F.or (aj ρ (au H i o'))) s'.heap q o') :
  Aft G F M ρ H s ρ (au H i o') s':=
 have ext:Ext (λb=>b∈aI o q) (F.or (aj ρ H)) (F.or (aj ρ (au H i o'))) s.heap s'.heap:=
  ⟨λb z e n=>(k b (λw=>n (w▸ha))).trans e,λb z e=>(Classical.em (b=a)).elim (λw=>⟨y,w▸hy⟩) λw=>⟨z,(k b w).trans e⟩,
   λb y=>.inl (y.imp_right λw=>(r9 hq ho w).elim (λm=>⟨i,q,o,hq,ho,sub b m⟩) λ⟨j,q',x,_,w⟩=>⟨j,q',x,w⟩)⟩
 have hm:∀b,b∈aI o q->F.or (aj ρ H) b:=λb m=>.inr ⟨i,q,o,hq,ho,m⟩
 Aft.put sr sm hq ho ext.keep ext.there sub (hr (λv u r=>r.ext ext hm (LP _)) λv u r=>Rel.ext G ext hm r)
section
variable{sc:Scope}{nm:List Str}{env:Env}{σ:ai}{n:Nat}
theorem RelL.map{X Y:Av}{h h':Heap}(f:∀v u,Rel G X h v u->Rel G Y h' v u){xs:List V}:∀{vs:List Value},RelL G X h xs vs->RelL G Y h' xs vs:=by
 induction xs with
 |nil=>exact λr=>r
 |cons x xs ih=>exact λr=>bY r λv q a b=>⟨v,q,rfl,f _ _ a,ih b⟩
theorem TRelA.map{X Y:Av}{h h':Heap}(f:∀v u,TRel G ρ X h v u->TRel G ρ' Y h' v u){xs:List (Nat × V)}:∀{vs:List DictEntry},TRelA G ρ X h xs vs->TRelA G ρ' Y h' xs vs:=by
 induction xs with
 |nil=>exact λr=>r
 |cons p xs ih=>exact λr=>gr r λv q a b c=>⟨v,q,rfl,a,f _ _ b,ih c⟩
theorem vG{vs:List Value}{m:Nat}{y:Value}:Obj.mapSeq (λa=>a.push y) (bD vs m)=bD (vs++[y]) (m+1):=by simp[Obj.mapSeq]
theorem yU{vs:List Value}{m k:Nat}{y:Value}:Obj.mapSeq (λa=>a.setIfInBounds k y) (bD vs m)=bD (vs.set k y) m:=by simp[Obj.mapSeq]
theorem vH{v:V}(h:(!v.isObj)=true):v.isObj=false:=Mv _▸h
theorem am{q:Addr × Addr}{o:O}(h:aI o q=[q.1]):q.1∈aI o q:=h▸List.mem_singleton_self _
theorem Cd{o a:V}{x y:Value}(I:Inv G F A sc nm env ρ H σ s)(ro:TRel G ρ (F.or (aj ρ H)) s.heap o x)(ra:TRel G ρ (F.or (aj ρ H)) s.heap a y) :
  Wps G F al A ρ H s (call (.builtin "list.append") [x,y]) (RV G F) Z (cj o a H):=
 Bh (P:=λx r=>Wps G F al A ρ H s (call (.builtin "list.append") [x,y]) (RV G F) Z r) I.sr ro (λ_=>trivial) λi q ob hq ho r=>D7 (P:=λob r=>ak H i=some ob->RelO G ρ (F.or (aj ρ H)) s.heap q ob->Wps G F al A ρ H s (call (.builtin "list.append") [.ref q.1,y]) (RV G F) Z r) (λ_ _=>trivial)
  (λxs ho r=>Wps.guard λhz=>r.2.elim λvs w=>w.elim λm w=>
   have hz:=LD.mp hz;have hi:s.heap.IsList q.1 vs.toArray:=aY w.1;have u:=da (f:=Obj.mapSeq λx_1=>x_1.push y) w.1 rfl
   ah (call_meets PySem.F.slot_list_append hi.typeIs PySem.F.entry_list_append (PySem.F.args_list_append_2 _ _) (list_append q.1 vs.toArray m y (by rw[List.size_toArray,RelL.length w.2];exact LB r.1 (by decide))) ⟨w.1,
    ⟨ρ,Aft.write (a:=q.1) I.sr ⟨_,_,rfl⟩ hq ho (am rfl) (λb n=>eX n) w.1 u (λa m=>m) (λf1 f2=>⟨by rw[LC];exact of_decide_eq_true hz.2,vs++[y],m+1,u.trans (congrArg some vG),RelL.append (w.2.map f2) (RelL.one (f2 _ _ (dZ (vH hz.1) ra)))⟩),jo⟩⟩)) ho r
noncomputable def gN(G:Cx)(X:Av)(h:Heap):List (List Nat × V)->List (PySem.Str × Value)->Prop
 |[],us=>us=[]
 |p::r,us=>∃v q,us=(S' p.1,v)::q/\p.1.length<=aq/\Rel G X h p.2 v/\gN G X h r q
@[elab_as_elim] theorem jU{X:Av}{h:Heap}{p:List Nat × V}{r:List (List Nat × V)}{us:List (PySem.Str × Value)}{P:List (PySem.Str × Value)->Prop}(l:gN G X h (p::r) us)(k:∀v q,p.1.length<=aq->Rel G X h p.2 v->gN G X h r q->P ((S' p.1,v)::q)):P us:=
 have l:∃v q,us=(S' p.1,v)::q/\p.1.length<=aq/\Rel G X h p.2 v/\gN G X h r q:=l
 l.elim λv l=>l.elim λq l=>l.1▸k v q l.2.1 l.2.2.1 l.2.2.2
theorem mI{X:Av}{h:Heap}{kvs:List (List Nat × V)}:∀{es:List DictEntry},RelD G X h kvs es->∃us,Pairs (strKind G.p G.w) es us/\gN G X h kvs us:=by
 induction kvs with
 |nil=>intro es r;cases (show es=[]from r);exact⟨[],.nil,rfl⟩
 |cons p r ih=>exact λl=>eW l λe q k z rx t=>(ih t).elim λus w=>⟨(S' p.1,e.val)::us,.cons (k.1.elim λt hk=>hk▸strKind_is G.p G.w _ _) rfl w.1,e.val,us,rfl,z,rx,w.2⟩
theorem mJ{k l:List Nat}(h:S' k=S' l):k=l:=congrArg Array.toList (Str.mk.inj h)
theorem du{k:PySem.Str}{v:Value}(h:(strKind G.p G.w).is k v=true):∃t,v = .str k t:=by
 cases v with
 |str y t=>exact⟨t,congrArg (Value.str · t) (of_decide_eq_true h)⟩
 |_=>cases h
end
end J.Internal
namespace J.Internal
noncomputable section
def fD(G:Cx)(X:Av)(h:Heap)(kvs:List (List Nat × V)):Prop:=
 ∀{es:List DictEntry}{us:List (PySem.Str × Value)},Pairs (strKind G.p G.w) es us->gN G X h kvs us->(∀e∈es,∃k,(strKind G.p G.w).is k e.key=true/\e.hash=(strKind G.p G.w).hash k)->RelD G X h kvs es
namespace KrelD_of
def z:=ep (V4 fD)
def kvs:=z.2.2.2
theorem T:fD z.1 z.2.1 z.2.2.1 kvs:=by
 induction kvs with
 |nil=>
  intro es us hp hu _;cases (show us=[]from hu);cases hp
  rfl
 |cons p r ih=>
  intro es us hp hu;revert hp;refine jU hu λv q z rx hr hp hk=>?_
  cases hp with
  | @cons e _ es' _ h1 h2 h3=>
   obtain⟨t,he⟩:=du h1;refine⟨e,es',rfl,⟨⟨t,he⟩,?_⟩,z,h2▸rx,ih h3 hr λe m=>hk e (LK _ m)⟩;obtain⟨k',h4,h5⟩:=hk e LL;obtain⟨t',he'⟩:=du h4;cases he.symm.trans he';exact h5
end KrelD_of
end
theorem sd{G X h kvs}:fD G X h kvs:=cN (p:=V4 fD) KrelD_of.T (G,X,h,kvs)
variable{G:Cx}
variable{F:Av}{A:Around}{ρ:List (Addr × Addr)}{H:Hp}{s:Shared}{Z:Option (Option Addr)->Prop}
section
variable{sc:Scope}{nm:List Str}{env:Env}{σ:ai}{n:Nat}
theorem Ce{k l:List Nat}:decide (S' l=S' k)=decide (l=k):=decide_eq_decide.mpr ⟨mJ,congrArg S'⟩
theorem vI{X:Av}{h:Heap}{k:List Nat}{kvs:List (List Nat × V)}:∀{us:List (PySem.Str × Value)},gN G X h kvs us->us.any (λkv=>kv.1=S' k)=kvs.any (λkv=>decide (kv.1=k)):=by
 induction kvs with
 |nil=>intro us r;cases (show us=[]from r);rfl
 |cons p r ih=>exact λl=>jU l λv q _ _ t=>congr (congrArg or Ce) (ih t)
theorem vJ{k:List Nat}{v:V}:∀{kvs:List (List Nat × V)},(kvs.map (·.1)).Nodup->cx kvs k v=if kvs.any (λkv=>decide (kv.1=k))then kvs.map (λkv=>if kv.1=k then(kv.1,v)else kv)else kvs++[(k,v)]:=by
 intro kvs
 induction kvs with
 |nil=>
  intro _;exact rfl
 |cons p r ih=>
  intro hn;have hn:=Mp.mp hn;show(if p.1=k then(p.1,v)::r else p::cx r k v)=_;rw[List.any_cons,List.map_cons]
  by_cases w:p.1=k
  ·rw[if_pos w,decide_eq_true w,Bool.true_or,if_pos rfl,if_pos w];exact congrArg _ ((List.map_congr_left λkv m=>if_neg λe:kv.1=k=>hn.1 (show p.1∈r.map (·.1) by rw[w,<-e];exact List.mem_map_of_mem (f:=Prod.fst) m)).trans (List.map_id r)).symm
  ·rw[if_neg w,decide_eq_false w,Bool.false_or,if_neg w,ih hn.2];exact apply_ite (p::·) _ _ _
theorem lP{X Y:Av}{h h':Heap}{k:List Nat}{v:V}{u:Value}{kvs:List (List Nat × V)}{us:List (PySem.Str × Value)}(hn:(kvs.map (·.1)).Nodup)(hk:k.length<=aq)(r:gN G X h kvs us)(f:∀v u,Rel G X h v u->Rel G Y h' v u)(rv:Rel G Y h' v u) :
  gN G Y h' (cx kvs k v) (stored us (S' k) u):=by
 rw[vJ hn];unfold stored;rw[vI r]
 by_cases z:kvs.any (λkv=>decide (kv.1=k))
 ·rw[if_pos z,if_pos z];clear z hn
  induction kvs generalizing us with
  |nil=>cases (show us=[]from r);exact rfl
  |cons p q ih=>
   refine jU r λw us' a b c=>?_;rw[List.map_cons,List.map_cons]
   by_cases e:p.1=k
   ·rw[if_pos e,if_pos (congrArg S' e)];exact⟨u,_,rfl,a,rv,ih c⟩
   ·rw[if_neg e,if_neg λh=>e (mJ h)];exact⟨w,_,rfl,a,f _ _ b,ih c⟩
 ·rw[if_neg z,if_neg z];clear z hn
  induction kvs generalizing us with
  |nil=>cases (show us=[]from r);exact⟨u,[],rfl,hk,rv,rfl⟩
  |cons p q ih=>exact jU r λw us' a b c=>⟨w,_,rfl,a,f _ _ b,ih c⟩
theorem cZ{X:Av}{h:Heap}{kvs:List (List Nat × V)}:∀{us:List (PySem.Str × Value)},gN G X h kvs us->us.map (·.1)=(kvs.map (·.1)).map S':=by
 induction kvs with
 |nil=>intro us r;cases (show us=[]from r);rfl
 |cons p r ih=>exact λl=>jU l λv q _ _ t=>congrArg (S' p.1::·) (ih t)
theorem jV{l:List (List Nat)}(h:l.Nodup):(l.map S').Nodup:=List.Pairwise.map S' (λa b w e=>w (mJ e)) h
theorem iI{X:Av}{h:Heap}{a:Addr}{kvs:List (List Nat × V)}{es:List DictEntry}{m:Nat}(hn:(kvs.map (·.1)).Nodup)(g:h.get? a=some (dictOf es m))(l:RelD G X h kvs es):∃us,h.DictOf (strKind G.p G.w) a us/\gN G X h kvs us/\us.length=kvs.length:=
 (mI l).elim λus w=>⟨us,⟨_,es.toArray,m,g,⟨rfl,rfl,rfl⟩,rfl,λe he=>gM l e (List.mem_toArray.mp he),w.1,by rw[cZ w.2];exact jV hn⟩,w.2,by rw[<-w.1.length,RelD.length l]⟩
theorem oG(k:List Nat)(v:V):∀(kvs:List (List Nat × V)),(cx kvs k v).length<=kvs.length+1:=by
 intro kvs
 induction kvs with
 |nil=>
  exact LZ _
 |cons p r ih=>
  show(if p.1=k then(p.1,v)::r else p::cx r k v).length<=_
  by_cases w:p.1=k
  ·rw[if_pos w];exact Nat.le_succ _
  ·rw[if_neg w];exact Nat.succ_le_succ (ih)
theorem tX(k:List Nat)(v:V)(x:List Nat):∀(kvs:List (List Nat × V)),x∈(cx kvs k v).map (·.1)->x=k\/x∈kvs.map (·.1):=by
 intro kvs
 induction kvs with
 |nil=>
  intro h;exact .inl (LJ.mp h)
 |cons p r ih=>
  intro h;have h:x∈(if p.1=k then(p.1,v)::r else p::cx r k v).map (·.1):=h
  by_cases w:p.1=k
  ·rw[if_pos w]at h;exact .inr h
  ·rw[if_neg w]at h;exact(LI.mp h).elim (λe=>.inr (LI.mpr (.inl e))) λh=>(ih h).imp_right λh=>LK _ h
theorem jW{k:List Nat}{v:V}:∀{kvs:List (List Nat × V)},(kvs.map (·.1)).Nodup->((cx kvs k v).map (·.1)).Nodup:=by
 intro kvs
 induction kvs with
 |nil=>
  intro _;exact Mp.mpr ⟨λh=>(by cases h),List.nodup_nil⟩
 |cons p r ih=>
  intro hn;show((if p.1=k then(p.1,v)::r else p::cx r k v).map (·.1)).Nodup
  by_cases w:p.1=k
  ·rw[if_pos w];exact hn
  ·rw[if_neg w];have hn:=Mp.mp hn;exact Mp.mpr ⟨λm=>(tX k v p.1 r m).elim w hn.1,ih hn.2⟩
theorem Cf{i v:V}{y z:Value}{xs:List V}{j:Nat}{q:Addr × Addr}(I:Inv G F A sc nm env ρ H σ s)(hq:ρ[j]? = some q)(ho:ak H j=some (.lst xs))(r:RelO G ρ (F.or (aj ρ H)) s.heap q (.lst xs))(ri:TRel G ρ (F.or (aj ρ H)) s.heap i y)(rv:TRel G ρ (F.or (aj ρ H)) s.heap v z) :
  Wps G F al A ρ H s (setItem (.ref q.1) y z) (λ_ _ _ _ _=>True) Z (i.onI (λk=>guard (decide (0<=k)&&decide (k<xs.length)&&!v.isObj) (.ok () (au H j (.lst (xs.set k.toNat v))))) .bad):=
 cg ri trivial λk t=>Wps.guard λhz=>r.2.elim λvs w=>w.elim λm w=>
  have hz:=LD.mp hz;have hk:=LD.mp hz.1;have u:=da (f:=Obj.mapSeq (·.setIfInBounds k.toNat z)) w.1 rfl
  ah (ki_setAt w.1 (of_decide_eq_true hk.1) (Int.lt_of_lt_of_le (of_decide_eq_true hk.2) (Mt (LU.mpr r.1) (by decide))) (by rw[List.size_toArray,RelL.length w.2];exact of_decide_eq_true hk.2)
   ⟨ρ,Aft.write (a:=q.1) I.sr ⟨_,s.toks,rfl⟩ hq ho (am rfl) (λb n=>eX n) w.1 u (λa m=>m) (λf1 f2=>⟨by rw[List.length_set];exact r.1,vs.set k.toNat z,m,u.trans (congrArg some yU),RelL.set (f2 _ _ (dZ (vH hz.2) rv)) _ (w.2.map f2)⟩),trivial⟩)
end
end J.Internal
namespace J.Internal
noncomputable section
def gO(G:Cx)(F:Av)(A:Around)(ρ:List (Addr × Addr))(H:Hp)(s:Shared)(Z:Option (Option Addr)->Prop)(sc:Scope)(nm:List Str)(env:Env)(σ:ai)(i:V)(v:V)(y:Value)(z:Value)(kvs:List (List Nat × V))(j:Nat)(q:Addr × Addr):Prop:=
 ∀(I:Inv G F A sc nm env ρ H σ s)(hq:ρ[j]? = some q)(ho:ak H j=some (.dct kvs))(r:RelO G ρ (F.or (aj ρ H)) s.heap q (.dct kvs))(ri:TRel G ρ (F.or (aj ρ H)) s.heap i y)(rv:TRel G ρ (F.or (aj ρ H)) s.heap v z),Wps G F al A ρ H s (setItem (.ref q.1) y z) (λ_ _ _ _ _=>True) Z (i.onS (λk=>guard (decide (kvs.length<aq)&&!v.isObj) (.ok () (au H j (.dct (cx kvs k v))))) .bad)
namespace KasgS_D
def z:=ep (Hi gO)
def G:=z.1
def q:=z.2.2.2.2.2.2.2.2.2.2.2.2.2.2.2.2.2
theorem T:gO G z.2.1 z.2.2.1 z.2.2.2.1 z.2.2.2.2.1 z.2.2.2.2.2.1 z.2.2.2.2.2.2.1 z.2.2.2.2.2.2.2.1 z.2.2.2.2.2.2.2.2.1 z.2.2.2.2.2.2.2.2.2.1 z.2.2.2.2.2.2.2.2.2.2.1 z.2.2.2.2.2.2.2.2.2.2.2.1 z.2.2.2.2.2.2.2.2.2.2.2.2.1 z.2.2.2.2.2.2.2.2.2.2.2.2.2.1 z.2.2.2.2.2.2.2.2.2.2.2.2.2.2.1 z.2.2.2.2.2.2.2.2.2.2.2.2.2.2.2.1 z.2.2.2.2.2.2.2.2.2.2.2.2.2.2.2.2.1 q:=λI hq ho r ri rv=>
 jN ri trivial λk t hk=>Wps.guard λhz=>r.2.elim λes w=>w.elim λm w=>by
  have hz:=LD.mp hz;obtain⟨us,hd,p2,hl⟩:=iI r.1.2 w.1 w.2;refine ah (wpAny_setItem_pairs (k:=S' k) (strKind_is G.p G.w _ t) hd (λh' hd' hs=>?_) (by rw[hl];exact LB r.1.1 (by decide)));obtain⟨⟨oc,od,odt,osl⟩,es',ep',g',⟨e1,e2,e3⟩,e4,hk',hp',hn'⟩:=hd';cases e1;cases e2;cases e3;cases e4;exact⟨z.2.2.2.1,Aft.write (a:=q.1) I.sr ⟨_,_,rfl⟩ hq ho (am rfl) (λb n=>hs.2 b n) w.1 g' (λa m=>m) (λf1 f2=>⟨⟨LB (oG _ _ _) (of_decide_eq_true hz.1),jW r.1.2⟩,es'.toList,ep',g',sd hp' (lP r.1.2 hk p2 f2 (f2 _ _ (dZ (vH hz.2) rv))) λe he=>hk' e (Array.mem_toList_iff.mp he)⟩),trivial⟩
end KasgS_D
end
theorem Cg{G F A ρ H s Z sc nm env σ i v y z kvs j q}:gO G F A ρ H s Z sc nm env σ i v y z kvs j q:=cN (p:=Hi gO) KasgS_D.T (G,F,A,ρ,H,s,Z,sc,nm,env,σ,i,v,y,z,kvs,j,q)
variable{G:Cx}
variable{F:Av}{A:Around}{ρ ρ':List (Addr × Addr)}{H:Hp}{s:Shared}{Z:Option (Option Addr)->Prop}
section
variable{sc:Scope}{nm:List Str}{env:Env}{σ:ai}{n:Nat}{pos:Pos}
theorem yV{o i v:V}{x y z:Value}(I:Inv G F A sc nm env ρ H σ s)(ro:TRel G ρ (F.or (aj ρ H)) s.heap o x)(ri:TRel G ρ (F.or (aj ρ H)) s.heap i y)(rv:TRel G ρ (F.or (aj ρ H)) s.heap v z) :
  Wps G F al A ρ H s (setItem x y z) (λ_ _ _ _ _=>True) Z (dU o i v H):=
 Bh (P:=λx r=>Wps G F al A ρ H s (setItem x y z) (λ_ _ _ _ _=>True) Z r) I.sr ro (λ_=>trivial) λj q ob hq ho r=>
  D7 (P:=λob w=>ak H j=some ob->RelO G ρ (F.or (aj ρ H)) s.heap q ob->Wps G F al A ρ H s (setItem (.ref q.1) y z) (λ_ _ _ _ _=>True) Z w) (Jm (P:=λob w=>ak H j=some ob->RelO G ρ (F.or (aj ρ H)) s.heap q ob->Wps G F al A ρ H s (setItem (.ref q.1) y z) (λ_ _ _ _ _=>True) Z w) (λ_ _=>trivial)
   λkvs ho r=>Cg I hq ho r ri rv) (λxs ho r=>Cf I hq ho r ri rv) ho r
theorem jX{i:Nat}{q:Addr × Addr}{o:O}(bg:Bg G)(sr:SR G F ρ H s.heap)(hq:ρ[i]? = some q)(ho:ak H i=some o)(ha:q.1∈aI o q):(q.1==sysModules)=false:=
 bg.mods.elim λo' e=>beq_eq_false_iff_ne.mpr λw=>Option.some_ne_none _ ((w▸e).symm.trans (sr.above q.1 (.inr ⟨i,q,_,hq,ho,ha⟩)))
theorem fE{i:Nat}{q:Addr × Addr}{o:O}(sr:SR G F ρ H s.heap)(hq:ρ[i]? = some q)(ho:ak H i=some o):Aft G F al ρ H s ρ (au H i .dead) s/\∀a∈aI o q,¬ (F.or (aj ρ (au H i .dead))) a:=
 ⟨Aft.put sr (.refl s) hq ho (λb x e _=>e) (λb x e=>⟨x,e⟩) (λa m=>(by cases m)) trivial,λa m w=>w.elim (sr.disj a ⟨i,q,o,hq,ho,m⟩) λw=>(r9 hq ho w).elim (λm=>(by cases m)) λ⟨j,q',o',n,e,g,m'⟩=>n (sr.apart j i q' q o' o a e g hq ho m' m)⟩
theorem Ch{v:V}{x:Value}(bg:Bg G)(I:Inv G F A sc nm env ρ H σ s)(r:TRel G ρ (F.or (aj ρ H)) s.heap v x) :
  Wps G F al A ρ H s (pure x) (RV G F) Z (eC v H):=
 Bh (P:=λx r=>Wps G F al A ρ H s (pure x) (RV G F) Z r) I.sr r (λ_=>trivial) λi q ob hq ho r=>
  D7 (P:=λob w=>ak H i=some ob->RelO G ρ (F.or (aj ρ H)) s.heap q ob->Wps G F al A ρ H s (pure (Value.ref q.1)) (RV G F) Z w) (Jm (P:=λob w=>ak H i=some ob->RelO G ρ (F.or (aj ρ H)) s.heap q ob->Wps G F al A ρ H s (pure (Value.ref q.1)) (RV G F) Z w) (λ_ _=>trivial)
   λkvs ho r=>r.2.elim λes w=>w.elim λm w=>ae ⟨ρ,(fE I.sr hq ho).1,r.1,q.1,es,m,rfl,jX bg I.sr hq ho (am rfl),(fE I.sr hq ho).2 q.1 (am rfl),w.1,RelD.ext G (fE I.sr hq ho).1.ext (λ_ q=>q.elim .inr .inl) w.2⟩)
   (λxs ho r=>r.2.elim λvs w=>w.elim λm w=>ae ⟨ρ,(fE I.sr hq ho).1,r.1,q.1,vs,m,rfl,(fE I.sr hq ho).2 q.1 (am rfl),w.1,(fE I.sr hq ho).1.relL (λ_ q=>q.elim) w.2⟩) ho r
theorem vK{name:Str}{hh:Int}{k v:Value}:∀{es:List DictEntry},(putL name hh k v es).length<=es.length+1:=by
 intro es
 induction es with
 |nil=>
  exact LZ _
 |cons e r ih=>
  unfold putL
  by_cases c:e.key.isStr name=true
  ·rw[if_pos c];exact Nat.le_succ _
  ·rw[if_neg c];exact Nat.succ_le_succ ih
theorem vL{R:Result->Shared->Prop}{C x dx:Addr}{name:Str}{tk:Tok}{v:Value}{es:List DictEntry}{m:Nat}{h:Heap}{g:Array GenState}{d:Drawn}{t:Nat}{os:OsState}(X:G.K.In h)
  (hx:h.get? x=some (instObj C dx)) (hd:h.get? dx=some (dictOf es m)) (hp:plainOver G.K C=true) (ht:takerIn G.K C name=some none) (hh:hasDictIn G.K C=true) (hr:es.any (·.refKey)=false) (hz:es.length<=1000)
  (k:R (.ok (.ret .none)) ⟨h.update dx (Obj.putName name (PyData.keyHash G.w.params name) (.str name t) v),g,d,t+1,os⟩) :
  codeAny (Md G) A (.call (.builtin "object.__setattr__") ⟨[.ref x,.str name tk,v],[]⟩) R ⟨h,g,d,t,os⟩:=by
 have I:InstAt h x (instObj C dx) C (some (dictOf es m)):=⟨hx,rfl,rfl,hd⟩;refine osa_open X I hp ht λb=>?_;obtain⟨cd,hc,hd'⟩:=any_some hh
 have D':(h.update dx (Obj.putName name (PyData.keyHash G.w.params name) (.str name t) v)).get? dx=some (dictOf (putL name (PyData.keyHash G.w.params name) (.str name t) v es) (putN name es m)):=by
  rw[<-putName_dict];exact da hd (by rw[putName_dict];rfl)
 refine wpAny_bind (wpAny_pure (wpAny_bind (wpAny_bind (wpAny_loadPart hx (wpAny_bind ((looks_clsIn X hc).here ?_))))));rw[hd'];refine wpAny_pure (a:=some dx) (wpAny_bind (wpAny_pure (wpAny_bind ?_)));unfold nsSet;refine wpAny_bind (wpAny_bind (wpAny_askSetting (wpAny_pure (wpAny_bind (wpAny_mkText (wpAny_bind (wpAny_loadPart hd ?_)))))));dsimp only;rw[aRefKeyMayBeTheName_at,show(!es.toArray.any (·.key.isStr name)&&es.toArray.any (·.refKey))=false from(congrArg _ (List.any_toArray.trans hr)).trans (Bool.and_false _)];exact wpAny_updatePart hd (wpAny_bind (wpAny_lookBehind D' (pastItsLine_dict (LB vK (LB (Nat.succ_le_succ hz) (by decide)))) (wpAny_pure k)))
theorem vM{X Y:Av}{h h':Heap}{k:Nat}{tk:Tok}{v:V}{u:Value}{c:Nat}(bg:Bg G)(hk:k<8)(f:∀v u,TRel G ρ X h v u->TRel G ρ' Y h' v u)(rv:TRel G ρ' Y h' v u){fs:List (Nat × V)} :
  ∀{es:List DictEntry},(fs.all λp=>gp c p.1)=true->TRelA G ρ X h fs es->TRelA G ρ' Y h' (iB fs k v) (putL (S' (G.an k)) (PyData.keyHash G.w.params (S' (G.an k))) (.str (S' (G.an k)) tk) u es):=by
 induction fs with
 |nil=>intro es _ r;cases (show es=[]from r);exact⟨_,[],rfl,⟨⟨tk,rfl⟩,rfl⟩,rv,rfl⟩
 |cons p fs ih=>
  intro es hv r;have hv:=LD.mp hv;refine gr r λen q b cc d=>?_;show TRelA G ρ' Y h' (if p.1=k then(p.1,v)::fs else p::iB fs k v) _;unfold putL;rw[lN b]
  by_cases z:p.1=k
  ·rw[if_pos z,if_pos (decide_eq_true (congrArg G.an z))];exact⟨_,q,rfl,b,rv,TRelA.map f d⟩
  ·rw[if_neg z,if_neg λw=>z (bg.inj p.1 k (dJ hv.1).2 hk (of_decide_eq_true w))];exact⟨en,_,rfl,b,f _ _ cc,ih hv.2 d⟩
theorem vN{c k:Nat}{v:V}(hk:gp c k=true):∀{fs:List (Nat × V)},(fs.all λp=>gp c p.1)=true->((iB fs k v).all λp=>gp c p.1)=true:=by
 intro fs
 induction fs with
 |nil=>
  intro _;exact LD.mpr ⟨hk,rfl⟩
 |cons p fs ih=>
  intro h;show((if p.1=k then(p.1,v)::fs else p::iB fs k v).all λp=>gp c p.1)=true
  by_cases z:p.1=k
  ·rw[if_pos z];exact h
  ·rw[if_neg z];exact LD.mpr ⟨(LD.mp h).1,ih (LD.mp h).2⟩
theorem vO{k:Nat}{v:V}:∀(fs:List (Nat × V)),(iB fs k v).length<=fs.length+1:=by
 intro fs
 induction fs with
 |nil=>
  exact LZ _
 |cons p fs ih=>
  show(if p.1=k then(p.1,v)::fs else p::iB fs k v).length<=_
  by_cases z:p.1=k
  ·rw[if_pos z];exact Nat.le_succ _
  ·rw[if_neg z];exact Nat.succ_le_succ (ih)
theorem vP{c k j:Nat}{fs:List (Nat × V)}{v:V}{z:Value}{q:Addr × Addr}(bg:Bg G)(sr:SR G F ρ H s.heap)(hq:ρ[j]? = some q)(ho:ak H j=some (.ins c fs))(r:RelO G ρ (F.or (aj ρ H)) s.heap q (.ins c fs))(rv:TRel G ρ (F.or (aj ρ H)) s.heap v z)(hz:gp c k=true)(hl:fs.length<50) :
  Wps G F al A ρ H s (setAttr (.ref q.1) (S' (G.an k)) z) (λ_ _ _ _ _=>True) Z (.ok () (au H j (.ins c (iB fs k v)))):=by
 obtain⟨⟨z1,z2⟩,g,es,m,gd,l⟩:=r;have bc:=bg.cls c (dJ hz).1;have hI:InstAt s.heap q.1 (instObj (G.ca c) q.2) (G.ca c) (some (dictOf es m)):=⟨g,rfl,rfl,gd⟩;have ht:takerIn G.K (G.ca c) (S' (G.an k))=some none:=by unfold takerIn;rw[bg.att c k hz];rfl
 have ne:q.1≠q.2:=λw=>by rw[w,gd]at g;cases g
 have u:=da (f:=Obj.putName (S' (G.an k)) (PyData.keyHash G.w.params (S' (G.an k))) (.str (S' (G.an k)) (s.toks+1)) z) gd (by rw[putName_dict];rfl)
 exact ah (set_plain (bg.inH sr) hI bc.2.2.2 (vL (bg.inH sr) g gd bc.2.2.1 ht bc.2.1 (oC l) (by rw[tU l];exact LB z2 (by decide))
  ⟨ρ,Aft.write (a:=q.2) sr ⟨_,_,rfl⟩ hq ho (LK _ (List.mem_singleton_self _)) (λb n=>eX n) gd u (λa m=>m) (λf1 f2=>⟨⟨vN hz z1,LB (vO fs) hl⟩,(eX ne).trans g,_,_,u.trans (by rw[putName_dict]),vM bg (dJ hz).2 f1 (f1 _ _ rv) z1 l⟩),trivial⟩))
theorem yW{o v:V}{k:Nat}{x z:Value}(bg:Bg G)(I:Inv G F A sc nm env ρ H σ s)(ro:TRel G ρ (F.or (aj ρ H)) s.heap o x)(rv:TRel G ρ (F.or (aj ρ H)) s.heap v z) :
  Wps G F al A ρ H s (setAttr x (S' (G.an k)) z) (λ_ _ _ _ _=>True) Z (jH o k v H):=
 Bh (P:=λx r=>Wps G F al A ρ H s (setAttr x (S' (G.an k)) z) (λ_ _ _ _ _=>True) Z r) I.sr ro (λ_=>trivial) λj q ob hq ho r=>
  D8 (P:=λob w=>ak H j=some ob->RelO G ρ (F.or (aj ρ H)) s.heap q ob->Wps G F al A ρ H s (setAttr (.ref q.1) (S' (G.an k)) z) (λ_ _ _ _ _=>True) Z w) (λ_ _=>trivial)
   (λc fs ho r=>Wps.guard λhz=>vP bg I.sr hq ho r rv (LD.mp hz).1 (of_decide_eq_true (LD.mp hz).2)) ho r
theorem qp{l:Addr}{vs:List Value}{m:Nat}{pl:Sem Bool}{Q:Value × List Value->Shared->Prop}{E:Value->Shared->Prop}(g:s.heap.get? l=some (bD vs m))(h:Q (.builtin "list.append", [.ref l]) s) :
  wpAny (Md G) A (getMethod (.ref l) "append" pl) Q E s:=
 getMethod_builtin (aY g).typeIs PySem.F.plainAttrs_list PySem.F.slot_list_append type_list_append (λa e=>by cases e;exact⟨_,g,rfl⟩) h
theorem tY{es:List Expr}(hp:Pl (backTo pos (starEach es env)))(hn:es.length<30):methodCallForm (es.length+([]:List Keyword).length) (backTo pos (starEach es env)) (backToKw pos (keywordEach [] env))=true:=by
 have e1:(backTo pos (starEach es env)).all (λx=>!x.1)=true:=L9.mpr λx hx=>Mv _▸Bool.eq_false_iff.mpr (List.any_eq_false.mp hp x hx);unfold methodCallForm;rw[e1];exact decide_eq_true hn
theorem eY{o:Expr}{name:Str}{apos:Pos}{es:List Expr}{f:ai->Hp->Out V}{k:V->Hp->Out V}(hb:∀id p q,o≠.Call (.Name id p) [] [] q\/(id != "super")=true)(hl:(apos.endLine==pos.line)=true)
  (hp:Pl (backTo pos (starEach es env))) (hn:es.length<30) (ho:SE G F A sc nm env Z f (eval o env)) (I:Inv G F A sc nm env ρ H σ s)
  (hm:∀x b ρ1 H1 s1,Aft G F al ρ H s ρ1 H1 s1->Inv G F A sc nm env ρ1 H1 σ s1->TRel G ρ1 (F.or (aj ρ1 H1)) s1.heap b x->
   k b H1 = .bad\/∃cal,(∀(pl:Sem Bool)(Q:Value × List Value->Shared->Prop)(E:Value->Shared->Prop),Q cal s1->wpAny (Md G) A (getMethod x name pl) Q E s1)/\Wps G F al A ρ1 H1 s1 (callWith pos cal.1 cal.2 (backTo pos (starEach es env)) []) (RV G F) Z (k b H1)) :
  Wps G F al A ρ H s (eval (.Call (.Attribute o name apos) es [] pos) env) (RV G F) Z ((f σ H).vb k):=by
 rw[arm_eval_Call,oF hb];refine Wps.vb I.sr I.fr (ho I) λx b ρ1 H1 s1 e1 a1 r1=>Wps.via (λQ E q=>aa (ac q)) ((hm x b ρ1 H1 s1 a1 (I.aft a1) r1).elim (λh=>h▸trivial) λ⟨cal,h1,h2⟩=>Wps.via (λQ E q=>?_) h2);unfold methodCall;refine aa (ad ?_);unfold calleeOf;rw[tY hp hn,if_pos rfl];refine ah (h1 _ _ _ ?_);unfold methodCallPos;rw[if_pos (by rw[hl];rfl)];exact aa (ae q)
theorem gP{f:Value}{first:List Value}{args:List (Bool × Sem Value)}{g:Out V}{k:V->Hp->Out V}(hp:Pl args)(hk:mE G f)(I:Inv G F A sc nm env ρ H σ s)
  (ha:Wps G F al A ρ H s (spliced args) (RTs G F) Z (g.vb λv H1=>.ok [v] H1))
  (hc:∀u v ρ1 H1 s1,Aft G F al ρ H s ρ1 H1 s1->Inv G F A sc nm env ρ1 H1 σ s1->TRel G ρ1 (F.or (aj ρ1 H1)) s1.heap v u->Wps G F al A ρ1 H1 s1 (call f (first++[u])) (RV G F) Z (k v H1)) :
  Wps G F al A ρ H s (callWith pos f first args []) (RV G F) Z (g.vb k):=
 have e:g.vb k=(g.vb λv H1=>.ok [v] H1).vb λvs H2=>DS vs (λy=>k y H2) .bad:=by cases g<;>rfl
 e▸c9 hp hk I ha λus vs ρ1 H1 s1 _ a1 I1 r1=>e1 (P:=λvs o=>RTs G F ρ1 H1 s1.heap vs us->Wps G F al A ρ1 H1 s1 (call f (first++us)) (RV G F) Z o) (λ_=>trivial)
  (λv r=>lM r λu q r1 r2=>(show q=[]from r2)▸hc u v ρ1 H1 s1 a1 I1 r1) r1
theorem qq{f:O->Bool}{v:V}{P:V->Prop}(h:v.isAt H f=true)(k:∀i o,ak H i=some o->f o=true->P (.obj i)):P v:=
 kO (P:=λv b=>b=true->P v) (λw=>(by cases w)) (λi h=>by
  have h:(ak H i).any f=true:=h
  cases ho:ak H i with
  |none=>rw[ho]at h;cases h
  |some o=>rw[ho]at h;exact k i o ho h) h
theorem EB{o:O}{P:O->Prop}(h:o.onL (λ_=>true) false=true)(k:∀l,P (.lst l)):P o:=D7 (d:=false) (P:=λo b=>b=true->P o) (λw=>(by cases w)) (λl _=>k l) h
theorem EC{o:O}{P:O->Prop}(h:o.onB (λ_=>true) false=true)(k:∀l,P (.ba l)):P o:=Hl (d:=false) (P:=λo b=>b=true->P o) (λw=>(by cases w)) (λl _=>k l) h
theorem Ci{a:Expr}{g:ai->Hp->Out V}{b:V}{x:Value}(hp:Pl (backTo pos (starEach [a] env)))(ha:lx G F A sc nm env Z (λσ H=>(g σ H).vb λv H1=>.ok [v] H1) (spliced (backTo pos (starEach [a] env))))(I:Inv G F A sc nm env ρ H σ s)(hL:tI b H=true)(r:TRel G ρ (F.or (aj ρ H)) s.heap b x) :
  ∃cal:Value × List Value,(∀(pl:Sem Bool)(Q:Value × List Value->Shared->Prop)(E:Value->Shared->Prop),Q cal s->wpAny (Md G) A (getMethod x "append" pl) Q E s)/\Wps G F al A ρ H s (callWith pos cal.1 cal.2 (backTo pos (starEach [a] env)) []) (RV G F) Z ((g σ H).vb λy H2=>cj b y H2):=
 qq (P:=λb=>TRel G ρ (F.or (aj ρ H)) s.heap b x->∃cal:Value × List Value,(∀(pl:Sem Bool)(Q:Value × List Value->Shared->Prop)(E:Value->Shared->Prop),Q cal s->wpAny (Md G) A (getMethod x "append" pl) Q E s)/\Wps G F al A ρ H s (callWith pos cal.1 cal.2 (backTo pos (starEach [a] env)) []) (RV G F) Z ((g σ H).vb λy H2=>cj b y H2)) hL
  (λi o hg hf r=>r.elim λq w=>by
   have ro:=I.sr.rel i q _ w.1 hg;clear hg;revert ro;refine EB (P:=λo=>RelO G ρ (F.or (aj ρ H)) s.heap q o->_) hf λl ro=>ro.2.elim λvs u=>u.elim λm u=>?_;refine⟨(.builtin "list.append", [.ref q.1]),λpl Q E h=>w.2▸qp u.1 h,gP hp (bZ _) I (ha I) λus v ρ2 H2 s2 a2 I2 r2=>?_⟩
   exact Cd I2 (a2.trel (λ_ q=>q.elim) (x:=.obj i) ⟨q,w.1,rfl⟩) r2) r
theorem ED{o a:Expr}{apos:Pos}{f g:ai->Hp->Out V}(hb:∀id p q,o≠.Call (.Name id p) [] [] q\/(id != "super")=true)(hl:(apos.endLine==pos.line)=true)
  (hp:Pl (backTo pos (starEach [a] env))) (ho:SE G F A sc nm env Z f (eval o env)) (ha:lx G F A sc nm env Z (λσ H=>(g σ H).vb λv H1=>.ok [v] H1) (spliced (backTo pos (starEach [a] env)))) :
  SE G F A sc nm env Z (λσ H=>(f σ H).vb λx H1=>guard (tI x H1) ((g σ H1).vb λy H2=>cj x y H2)) (eval (.Call (.Attribute o "append" apos) [a] [] pos) env):=λρ H s σ I=>
 eY (k:=λx H1=>guard (tI x H1) ((g σ H1).vb λy H2=>cj x y H2)) hb hl hp (show 1<30 by decide) ho I λx b ρ1 H1 s1 a1 I1 r1=>by
  cases hL:tI b H1 with
  |false=>exact .inl rfl
  |true=>exact .inr (Ci hp ha I1 hL r1)
noncomputable def fB:B1->Value
 |.len=>.builtin "len" |.abs=>.builtin "abs" |.int=>.type "int" |.chr=>.builtin "chr" |.ord=>.builtin "ord" |.bytes=>.type "bytes" |.dict=>.type "dict" |.sorted=>.builtin "sorted" |.min=>.builtin "min" |.max=>.builtin "max"
theorem dO{n:Nat}(h:n<=aq):n<=sizeLine:=LB h (by decide)
theorem mK{n:Nat}(h:n<=aq):(n:Int)<2 ^ 63:=Int.lt_of_le_of_lt (LU.mpr h) (by decide)
section
variable{b:V}{x:Value}
theorem Bk{l:List V}{a:Addr}{vs:List Value}{m:Nat}{X:Av}(sr:SR G F ρ H s.heap)(z:l.length<=aq)(g:s.heap.get? a=some (bD vs m))(ll:RelL G X s.heap l vs):Wps G F al A ρ H s (call (.builtin "len") [.ref a]) (RV G F) Z (.ok (.int l.length) H):=
 have e:vs.toArray.size=l.length:=RelL.length ll
 Wps.val (v:=.int l.length (s.toks+1)) (tk:=s.toks+1+1) sr (λQ E q=>Calls.call_len_list (aY g) (by rw[e];exact mK z) (by rw[e];exact q)) be
theorem Bm{l:List (List Nat × V)}{a:Addr}{es:List DictEntry}{m:Nat}{X:Av}(sr:SR G F ρ H s.heap)(z:l.length<=aq)(zn:(l.map (·.1)).Nodup)(na:(a==sysModules)=false)(g:s.heap.get? a=some (dictOf es m))(ll:RelD G X s.heap l es):Wps G F al A ρ H s (call (.builtin "len") [.ref a]) (RV G F) Z (.ok (.int l.length) H):=
 (iI zn g ll).elim λus w=>Wps.val (v:=.int l.length (s.toks+1)) (tk:=s.toks+1+1) sr (λQ E q=>call_len_dict na w.1 (by rw[w.2.2];exact mK z) (by rw[w.2.2];exact q)) be
theorem EE(bg:Bg G)(sr:SR G F ρ H s.heap)(r:TRel G ρ (F.or (aj ρ H)) s.heap b x)(i:Nat)(e:b = .obj i):Wps G F al A ρ H s (call (.builtin "len") [x]) (RV G F) Z (bo ((ak H i).bind λo=>o.onL (λl=>some l.length) (o.onD (λl=>some l.length) none)) λn=>.ok (.int n) H):=by
 subst e;obtain⟨q,hq,rfl⟩:=r
 cases ho:ak H i with
 |none=>trivial
 |some o=>
  have ro:=sr.rel i q o hq ho
  cases o with
  |lst l=>exact ro.2.elim λvs w=>w.elim λm w=>Bk sr ro.1 w.1 w.2
  |dct l=>exact ro.2.elim λvs w=>w.elim λm w=>Bm sr ro.1.1 ro.1.2 (jX bg sr hq ho (am rfl)) w.1 w.2
  |_=>trivial
theorem Cj(bg:Bg G)(sr:SR G F ρ H s.heap)(r:TRel G ρ (F.or (aj ρ H)) s.heap b x):Wps G F al A ρ H s (call (.builtin "len") [x]) (RV G F) Z (bG .len b H):=by
 show Wps _ _ _ _ _ _ _ _ _ _ (bo (Bb b H) λn=>Out.ok (V.int n) H)
 cases b with
 |str l=>exact(eV r).2.elim λt e=>e▸Wps.val (v:=.int l.length (s.toks+1)) (tk:=s.toks+1+1) sr (λQ E q=>P.len_str (Int.not_le.mpr (mK (eV r).1)) q) be
 |byt l=>exact(iD r).2.elim λt e=>e▸Wps.val (v:=.int l.length (s.toks+1)) (tk:=s.toks+1+1) sr (λQ E q=>len_bytes (LB (iD r).1 (by decide)) q) be
 |tup l=>
  exact(show _/\∃a vs n,x = .ref a/\¬_/\s.heap.get? a=some (cS vs n)/\RelL G _ s.heap l vs from r).2.elim λa w=>w.elim λvs w=>w.elim λm w=>by
   have e:vs.toArray.size=l.length:=RelL.length w.2.2.2;have z:l.length<=aq:=(show _/\_ from r).1;rw[w.1];exact Wps.val (v:=.int l.length (s.toks+1)) (tk:=s.toks+1+1) sr (λQ E q=>len_tuple ⟨_,w.2.2.1,rfl,m,rfl⟩ (by rw[e];exact mK z) (by rw[e];exact q)) be
 |lst l=>exact(show _/\∃a vs n,x = .ref a/\¬_/\s.heap.get? a=some (bD vs n)/\RelL G _ s.heap l vs from r).2.elim λa w=>w.elim λvs w=>w.elim λm w=>w.1▸Bk sr (show _/\_ from r).1 w.2.2.1 w.2.2.2
 |dct l=>exact(show(_/\_)/\∃a vs n,x = .ref a/\(a==sysModules)=false/\¬_/\s.heap.get? a=some (dictOf vs n)/\RelD G _ s.heap l vs from r).2.elim λa w=>w.elim λvs w=>w.elim λm w=>w.1▸Bm sr (show(_/\_)/\_ from r).1.1 (show(_/\_)/\_ from r).1.2 w.2.1 w.2.2.2.1 w.2.2.2.2
 |obj i=>exact EE bg sr r i rfl
 |_=>trivial
theorem Ck(sr:SR G F ρ H s.heap)(r:TRel G ρ (F.or (aj ρ H)) s.heap b x):Wps G F al A ρ H s (call (fB .abs) [x]) (RV G F) Z (bG .abs b H):=
 cg (P:=λx o=>Wps G F al A ρ H s (call (fB .abs) [x]) (RV G F) Z o) r trivial λi t=>ah (call_abs_int λu tk=>⟨ρ,.toks sr tk,u,congrArg (Value.int · u) (by split<;>omega)⟩)
theorem Cl(sr:SR G F ρ H s.heap)(r:TRel G ρ (F.or (aj ρ H)) s.heap b x):Wps G F al A ρ H s (call (fB .int) [x]) (RV G F) Z (bG .int b H):=
 cg (P:=λx o=>Wps G F al A ρ H s (call (fB .int) [x]) (RV G F) Z o) r (tN (P:=λx o=>Wps G F al A ρ H s (call (fB .int) [x]) (RV G F) Z o) r trivial λb=>Wps.val sr (λQ E q=>call_int_bool q) be) λi t=>Wps.val (tk:=s.toks) sr (λQ E q=>call_int_int q) be
theorem Cm(sr:SR G F ρ H s.heap)(r:TRel G ρ (F.or (aj ρ H)) s.heap b x):Wps G F al A ρ H s (call (fB .chr) [x]) (RV G F) Z (bG .chr b H):=
 cg (P:=λx o=>Wps G F al A ρ H s (call (fB .chr) [x]) (RV G F) Z o) r trivial λi t=>Wps.guard λhz=>BY hz λh1 h2=>Wps.val sr (λQ E q=>chr_of_range h1 (Mt (Int.le_of_lt h2) (by decide:(256:Int)<=1114111)) q) ⟨show 1<=aq by decide,_,rfl⟩
theorem Cn(sr:SR G F ρ H s.heap)(r:TRel G ρ (F.or (aj ρ H)) s.heap b x):Wps G F al A ρ H s (call (fB .ord) [x]) (RV G F) Z (bG .ord b H):=
 jN (P:=λx o=>Wps G F al A ρ H s (call (fB .ord) [x]) (RV G F) Z o) r trivial λl t _=>e1 (P:=λl o=>Wps G F al A ρ H s (call (fB .ord) [.str ⟨l.toArray⟩ t]) (RV G F) Z o) trivial λc=>Wps.val sr (λQ E q=>P.ord_of_char q) be
end
end
end J.Internal
namespace J.Internal
variable{G:Cx}
variable{F F':Av}{A:Around}{ρ ρ':List (Addr × Addr)}{H H':Hp}{s s':Shared}{h:Heap}
theorem jp{X X':Av}(hs:∀a,X' a->X a):Ext al X X' h h:=⟨λ_ _ e _=>e,λ_ o e=>⟨o,e⟩,λa x=>.inl (hs a x)⟩
theorem cb{W W':Av}(h1:∀a,F a->F' a)(h2:∀a,W a->W' a):∀a,F.or W a->F'.or W' a:=λa x=>x.imp (h1 a) (h2 a)
theorem SR.drop(x:SR G F' ρ H h)(hs:∀a,F a->F' a):SR G F ρ H h where
 len:=x.len
 rel:=λi q o e g=>(x.rel i q o e g).ext (jp (cb hs λ_ w=>w)) (λ_ m=>m.elim) (LP _) λ_ _ m=>m
 apart:=x.apart
 disj:=λa w f=>x.disj a w (hs a f)
 base:=x.base
 above:=λa w=>x.above a (w.imp_left (hs a))
theorem bx{α:Type}{l:List α}{n i:Nat}{x:α}(h:(l.take n)[i]? = some x):l[i]? = some x/\i<n:=by
 rw[List.getElem?_take]at h
 split at h
 ·exact⟨h,by assumption⟩
 ·cases h
theorem db{n:Nat}{a:Addr}(w:aj (ρ.take n) (H.take n) a):aj ρ H a:=by
 obtain⟨i,q,o,e,g,m⟩:=w;rw[ay]at g;exact⟨i,q,o,(bx e).1,by rw[ay];exact(bx g).1,m⟩
theorem tZ{X:Av}{n:Nat}{x:V}{v:Value}(hx:∀j,x = .obj j->j<n)(r:TRel G ρ X h x v):TRel G (ρ.take n) X h x v:=by
 cases x with
 |obj j=>
  obtain⟨q,e,ev⟩:=r;refine⟨q,?_,ev⟩;rw[List.getElem?_take,if_pos (hx j rfl)];exact e
 |_=>exact r
theorem se{n:Nat}{x:V}(h:x.onO (λj=>decide (j<n)) true=true):∀j,x = .obj j->j<n:=λj e=>by subst e;exact of_decide_eq_true h
theorem qr{X:Av}{n:Nat}{fs:List (Nat × V)}:∀{es:List DictEntry},iY n fs=true->TRelA G ρ X h fs es->TRelA G (ρ.take n) X h fs es:=by
 induction fs with
 |nil=>exact λ_ r=>r
 |cons p fs ih=>exact λhf r=>gr r λe q a b c=>⟨e,q,rfl,a,tZ (se (LD.mp hf).1) b,ih (LD.mp hf).2 c⟩
theorem t4{n:Nat}{H:Hp}:∀{i:Nat}{c:Nat}{fs:List (Nat × V)},a8 n H=true->H[i]? = some (.ins c fs)->iY n fs=true:=by
 induction H with
 |nil=>exact λ_ e=>(by cases e)
 |cons o r ih=>exact λ{i}=>match i with
  |0=>λhf e=>by cases e;exact(LD.mp hf).1
  |i+1=>λhf e=>ih (LD.mp hf).2 e
theorem SR.take{n:Nat}(x:SR G F ρ H h)(hf:a8 n (H.take n)=true):SR G F (ρ.take n) (H.take n) h where
 len:=by simp[x.len]
 rel:=λi q o e g=>by
  rw[ay]at g;have r:=x.rel i q o (bx e).1 (by rw[ay];exact(bx g).1);have E:Ext al (F.or (aj ρ H)) (F.or (aj (ρ.take n) (H.take n))) h h:=jp (cb (λ_ f=>f) λ_ w=>db w);have r':RelO G ρ (F.or (aj (ρ.take n) (H.take n))) h q o:=r.ext E (λ_ m=>m.elim) (LP _) λ_ _ m=>m
  cases o with
  |ins c fs=>
   obtain⟨z,g1,es,m,g2,l⟩:=r';exact⟨z,g1,es,m,g2,qr (t4 hf g) l⟩
  |lst xs=>exact r'
  |dct xs=>exact r'
  |ba xs=>exact r'
  |dead=>exact r'
 apart:=λi j q r o o' a e1 g1 e2 g2 m1 m2=>by
  rw[ay]at g1 g2;exact x.apart i j q r o o' a (bx e1).1 (by rw[ay];exact(bx g1).1) (bx e2).1 (by rw[ay];exact(bx g2).1) m1 m2
 disj:=λa w=>x.disj a (db w)
 base:=x.base
 above:=λa w=>x.above a (w.imp_right db)
theorem jY{α:Type}{l l':List α}(h:l<+:l'):l'.take l.length=l:=by
 obtain⟨r,rfl⟩:=h;simp
noncomputable def eM{α:Type}(keep:Bool)(n:Nat)(l:List α):List α:=match keep with
 |true=>l
 |false=>l.take n
theorem Aft.leave{keep:Bool}{L:Av}(a:Aft G (F.or L) L ρ H s ρ' H' s')(hL:∀x,L x->s.heap.get? x=none)(sr:SR G F ρ H s.heap)(hf:keep=false->a8 H.length (H'.take H.length)=true) :
  Aft G F al ρ H s (eM keep H.length ρ') (eM keep H.length H') s':=by
 have dr:SR G F ρ' H' s'.heap:=a.sr.drop λ_ f=>.inl f
 have grow:∀x,F.or (aj ρ' H') x->F.or (aj ρ H) x\/s.heap.get? x=none:=λx w=>by
  rcases w with f|w
  ·exact .inl (.inl f)
  ·rcases a.ext.grow x (.inr w)with q|q
   ·rcases q with q|q
    ·rcases q with q|q
     ·exact .inl (.inl q)
     ·exact .inr (hL x q)
    ·exact .inl (.inr q)
   ·exact .inr q
 have keepE:∀b o,s.heap.get? b=some o->¬ (aj ρ H b\/F b)->s'.heap.get? b=some o:=λb o e n=>a.ext.keep b o e λm=>by
  rcases m with w|f|l
  ·exact n (.inl w)
  ·exact n (.inr f)
  ·rw[hL b l]at e;cases e
 have frm:∀b o,F b->s.heap.get? b=some o->¬al b->UpS s'.heap b o:=λb o f e _=>a.frm b o (.inl f) e λl=>by rw[hL b l]at e;cases e
 cases keep with
 |true=>exact⟨a.same,a.pre,dr,⟨keepE,a.ext.there,grow⟩,frm⟩
 |false=>
  exact⟨a.same,by show ρ<+:ρ'.take H.length;rw[<-sr.len,jY a.pre];exact LP _,dr.take (hf rfl),⟨keepE,a.ext.there,λx w=>grow x (w.imp_right db)⟩,frm⟩
theorem EX.leave{Z:Option (Option Addr)}{L:Av}{A':Around}{e:Value}(a:EX G (F.or L) L A' ρ H s H' Z e s')(hL:∀x,L x->s.heap.get? x=none)(sr:SR G F ρ H s.heap)(hf:a8 H.length (H'.take H.length)=true)(st:Stk F A s'.heap) :
  EX G F al A ρ H s (H'.take H.length) Z e s':=by
 obtain⟨⟨ea,ρ',Xs,he,hx,hn,hp,hs,hE⟩,hsm,hfr,_⟩:=a;refine⟨⟨ea,ρ'.take H.length,Xs,he,hx,hn,by rw[<-sr.len,jY hp];exact LP _,?_,?_⟩,hsm,λb o f g _=>hfr b o (.inl f) g (λl=>by rw[hL b l]at g;cases g),st⟩
 ·exact(hs.drop (F:=F.or Xs) (cb (λ_ f=>.inl f) λ_ w=>w)).take hf
 ·refine⟨λb o e n=>hE.keep b o e λm=>?_,hE.there,λx w=>?_⟩
  ·rcases m with w|f|l
   ·exact n (.inl w)
   ·exact n (.inr f)
   ·rw[hL b l]at e;cases e
  ·rcases w with f|w
   ·exact .inl (.inl f)
   ·rcases hE.grow x (.inr (db w))with q|q
    ·rcases q with q|q
     ·rcases q with q|q
      ·exact .inl (.inl q)
      ·exact .inr (hL x q)
     ·exact .inl (.inr q)
    ·exact .inr q
section
variable{sc:Scope}{nm:List Str}{env:Env}{σ:ai}{n:Nat}{x:Str}
noncomputable def Me(env:Env):Av:=λa=>a=env.locals\/∃x c,env.cells.lookup x=some c/\a=c
theorem EnvR.meF{h:Heap}(e:EnvR G F ρ H sc nm env σ h):∀a,Me env a->F a:=λa m=>by
 rcases m with rfl|⟨x,c,hx,rfl⟩
 ·exact e.locF
 ·exact e.celF x _ hx
theorem Aft.frame{c:Addr}{o':Obj}(sr:SR G F ρ H s.heap)(sm:Same s s')(hc:F c)(hs:∀b,b≠c->s'.heap.get? b=s.heap.get? b)(hn:s'.heap.get? c=some o'):Aft G F (λa=>a=c) ρ H s ρ H s':=by
 have E:Ext (λa=>a=c) (F.or (aj ρ H)) (F.or (aj ρ H)) s.heap s'.heap:=⟨λb o e n=>(hs b n).trans e,λb o e=>by
  by_cases w:b=c
  ·subst w;exact⟨_,hn⟩
  ·exact⟨o,(hs b w).trans e⟩,λ_ x=>.inl x⟩
 refine⟨sm,LP _,⟨sr.len,λi q o e g=>(sr.rel i q o e g).ext E (λa m=>by subst m;exact .inl hc) (LP _) λa m w=>sr.disj a ⟨i,q,o,e,g,m⟩ (w▸hc),sr.apart,sr.disj,λb o e=>(hs b λw=>?_).trans (sr.base b o e),sr.above⟩,
  ⟨λb o e n=>E.keep b o e λw=>n (.inr (w▸hc)),E.there,E.grow⟩,λb o f e n=>.of ((hs b n).trans e)⟩
 have:=sr.above c (.inl hc);rw[<-w,e]at this;cases this
theorem dP{σ:ai}:∀{i j:Nat}{U U':V},aV (ao σ i U) j=some U'->(j=i/\U'=U)\/(j≠i/\aV σ j=some U'):=by
 induction σ with
 |nil=>exact λh=>(by cases h)
 |cons x r ih=>
  intro i j U U' h
  cases i with
  |zero=>cases j with
   |zero=>exact .inl ⟨rfl,(LM h).symm⟩
   |succ j=>exact .inr ⟨Nat.succ_ne_zero j,h⟩
  |succ i=>cases j with
   |zero=>exact .inr ⟨(Nat.succ_ne_zero i).symm,h⟩
   |succ j=>exact(ih h).imp (λw=>⟨congrArg Nat.succ w.1,w.2⟩) λw=>⟨λe=>w.1 (Nat.succ.inj e),w.2⟩
theorem mL{nm:List Str}(hn:nm.Nodup){i j:Nat}{x:Str}(h1:nm[i]? = some x)(h2:nm[j]? = some x):i=j:=by
 obtain⟨l1,e1⟩:=LE.mp h1;obtain⟨l2,e2⟩:=LE.mp h2;exact(List.getElem_inj hn).mp (e1.trans e2.symm)
structure Lft(G:Cx)(F:Av)(A:Around)(sc:Scope)(nm:List Str)(env:Env)(ρ:List (Addr × Addr))(H:Hp)(σ:ai)(s:Shared)(ρ':List (Addr × Addr))(H':Hp)(σ':ai)(s':Shared):Prop where
 aft:Aft G F (Me env) ρ H s ρ' H' s'
 ev:EnvR G F ρ' H' sc nm env σ' s'.heap
 st:Stk F A s'.heap
theorem Lft.inv{σ':ai}(I:Inv G F A sc nm env ρ H σ s)(l:Lft G F A sc nm env ρ H σ s ρ' H' σ' s'):Inv G F A sc nm env ρ' H' σ' s':=
 ⟨l.aft.sr,l.ev,l.st,λx f=>let ⟨o,e⟩:=I.ft x f;l.aft.ext.there x o e⟩
end
end J.Internal
namespace J.Internal
noncomputable section
def fG(G:Cx)(F:Av)(A:Around)(ρ:List (Addr × Addr))(H:Hp)(s:Shared)(sc:Scope)(nm:List Str)(env:Env)(σ:ai)(x:Str)(V0:V)(v:Value)(i:Nat)(E:Value->Shared->Prop):Prop:=
 ∀(I:Inv G F A sc nm env ρ H σ s)(hi:nm[i]? = some x)(hk:sc.names.lookup x=some .local\/sc.names.lookup x=some .cell)(hn:nm.Nodup)(r:TRel G ρ (F.or (aj ρ H)) s.heap V0 v),wpAny (Md G) A (storeName env x v) (λ_ s'=>Lft G F A sc nm env ρ H σ s ρ H (ao σ i V0) s') E s
namespace Kn_store
def z:=ep (uY fG)
def G:=z.1
def F:=z.2.1
def ρ:=z.2.2.2.1
def H:=z.2.2.2.2.1
def s:=z.2.2.2.2.2.1
def env:=z.2.2.2.2.2.2.2.2.1
def x:=z.2.2.2.2.2.2.2.2.2.2.1
def v:=z.2.2.2.2.2.2.2.2.2.2.2.2.1
theorem T:fG G F z.2.2.1 ρ H s z.2.2.2.2.2.2.1 z.2.2.2.2.2.2.2.1 env z.2.2.2.2.2.2.2.2.2.1 x z.2.2.2.2.2.2.2.2.2.2.2.1 v z.2.2.2.2.2.2.2.2.2.2.2.2.2.1 z.2.2.2.2.2.2.2.2.2.2.2.2.2.2:=by
 intro I hi hk hn r;have mF:=I.ev.meF;rcases hk with hk|hk
 ·have hl:env.kindOf x=some .local:=by
   rcases I.ev.names x _ hk with h|⟨h,_⟩
   ·exact h
   ·cases h
  obtain⟨m,hns,km⟩:=I.ev.loc;refine wpAny_storeName_local hl hns (λh' hn' hs'=>?_) (by rw[I.ev.kind];rfl);obtain⟨o',es',ep',g',d',r'⟩:=id hn';have af:Aft G F (λa=>a=env.locals) ρ H s ρ H {s with heap:=h',toks:=s.toks+1}:=Aft.frame I.sr ⟨h',_,rfl⟩ I.ev.locF (λb n=>hs'.2 b n) g';have af':=af.weak (M':=Me env) λ_ w=>.inl w;have mv:∀V v,TRel G ρ (F.or (aj ρ H)) s.heap V v->TRel G ρ (F.or (aj ρ H)) h' V v:=λV v t=>af'.trel mF t;have kc:∀c w,(∃x,env.cells.lookup x=some c)->s.heap.IsCell c w->h'.IsCell c w:=λc w ⟨x,hx⟩ ⟨o,g,d⟩=>⟨o,(hs'.2 c (I.ev.cL x c hx)).trans g,d⟩;refine⟨af',⟨I.ev.kind,I.ev.glob,I.ev.bui,I.ev.names,I.ev.locF,I.ev.celF,⟨_,hn',?_⟩,?_,?_,I.ev.apart,I.ev.cL⟩,?_⟩
  ·intro j W y e1 e2 e3;rcases dP e1 with ⟨rfl,rfl⟩|⟨ne,e1⟩
   ·rw[hi]at e2;cases e2;exact⟨v,by simp,mv _ _ r⟩
   ·have:y≠x:=λw=>ne (mL hn e2 (w▸hi));obtain⟨u,e4,t⟩:=km j W y e1 e2 e3;exact⟨u,by simp[this,e4],mv _ _ t⟩
  ·intro j W y e1 e2 e3;rcases dP e1 with ⟨rfl,rfl⟩|⟨ne,e1⟩
   ·rw[hi]at e2;cases e2;rw[hk]at e3;rcases e3 with e|e<;>cases e
   ·obtain⟨c,u,e4,ic,t⟩:=I.ev.cel j W y e1 e2 e3;exact⟨c,u,e4,kc c _ ⟨y,e4⟩ ic,mv _ _ t⟩
  ·intro y e;obtain⟨c,u,e4,ic⟩:=I.ev.cel0 y e;exact⟨c,u,e4,kc c _ ⟨y,e4⟩ ic⟩
  ·obtain⟨l,e,k⟩:=I.st;refine⟨l,e,λen hen=>?_⟩;obtain⟨k1,L,o,es,ep,e1,f,g,d⟩:=k en hen
   by_cases w:L=env.locals
   ·subst w;exact⟨k1,_,o',es',ep',e1,f,g',d'⟩
   ·exact⟨k1,L,o,es,ep,e1,f,(hs'.2 L w).trans g,d⟩
 ·have hl:env.kindOf x=some .cell:=by
   rcases I.ev.names x _ hk with h|⟨h,_⟩
   ·exact h
   ·cases h
  obtain⟨c,v₀,hc,ic⟩:=I.ev.cel0 x (.inl hk);refine wpAny_storeName_cell I.ev.kind hl hc ic λh' ic' hs'=>?_;obtain⟨oc,gc,dc⟩:=id ic';have af:Aft G F (λa=>a=c) ρ H s ρ H {s with heap:=h'}:=Aft.frame I.sr ⟨h',_,rfl⟩ (I.ev.celF x c hc) (λb n=>hs'.2 b n) gc;have af':=af.weak (M':=Me env) λ_ w=>.inr ⟨x,c,hc,w⟩;have mv:∀V v,TRel G ρ (F.or (aj ρ H)) s.heap V v->TRel G ρ (F.or (aj ρ H)) h' V v:=λV v t=>af'.trel mF t;obtain⟨m,⟨o,es,ep,g,rr⟩,km⟩:=I.ev.loc;refine⟨af',⟨I.ev.kind,I.ev.glob,I.ev.bui,I.ev.names,I.ev.locF,I.ev.celF,⟨m,⟨o,es,ep,(hs'.2 _ (Ne.symm (I.ev.cL x c hc))).trans g,rr⟩,?_⟩,?_,?_,I.ev.apart,I.ev.cL⟩,?_⟩
  ·intro j W y e1 e2 e3;rcases dP e1 with ⟨rfl,rfl⟩|⟨ne,e1⟩
   ·rw[hi]at e2;cases e2;rw[hk]at e3;cases e3
   ·obtain⟨u,e4,t⟩:=km j W y e1 e2 e3;exact⟨u,e4,mv _ _ t⟩
  ·intro j W y e1 e2 e3;rcases dP e1 with ⟨rfl,rfl⟩|⟨ne,e1⟩
   ·rw[hi]at e2;cases e2;exact⟨c,v,hc,ic',mv _ _ r⟩
   ·obtain⟨c',u,e4,⟨oo,gg,dd⟩,t⟩:=I.ev.cel j W y e1 e2 e3;have:c'≠c:=λw=>ne (mL hn e2 (by have q:=I.ev.apart y x c (w▸e4) hc;rw[q];exact hi));exact⟨c',u,e4,⟨oo,(hs'.2 c' this).trans gg,dd⟩,mv _ _ t⟩
  ·intro y e;obtain⟨c',u,e4,⟨oo,gg,dd⟩⟩:=I.ev.cel0 y e
   by_cases w:c'=c
   ·subst w;exact⟨_,_,e4,ic'⟩
   ·exact⟨c',u,e4,oo,(hs'.2 c' w).trans gg,dd⟩
  ·obtain⟨l,e,k⟩:=I.st;refine⟨l,e,λen hen=>?_⟩;obtain⟨k1,L,o,es,ep,e1,f,g,d⟩:=k en hen
   have:L≠c:=λw=>by
    subst w;obtain⟨oc0,gc0,dc0⟩:=ic;rw[g]at gc0;cases gc0;rw[d]at dc0;cases dc0
   exact⟨k1,L,o,es,ep,e1,f,(hs'.2 L this).trans g,d⟩
end Kn_store
end
theorem gQ{G F A ρ H s sc nm env σ x V0 v i E}:fG G F A ρ H s sc nm env σ x V0 v i E:=cN (p:=uY fG) Kn_store.T (G,F,A,ρ,H,s,sc,nm,env,σ,x,V0,v,i,E)
noncomputable section
def d6(G:Cx)(F:Av)(A:Around)(ρ:List (Addr × Addr))(H:Hp)(s:Shared)(sc:Scope)(nm:List Str)(env:Env)(σ:ai)(x:Str)(V0:V)(v:Value)(i:Nat)(E:Value->Shared->Prop):Prop:=
 ∀(I:Inv G F A sc nm env ρ H σ s)(hi:nm[i]? = some x)(hk:sc.names.lookup x=some .local)(hn:nm.Nodup)(r:TRel G ρ (F.or (aj ρ H)) s.heap V0 v),wpAny (Md G) A (storeName env x v) (λ_ s'=>Aft G F (λa=>a=env.locals) ρ H s ρ H s'/\Lft G F A sc nm env ρ H σ s ρ H (ao σ i V0) s') E s
namespace Kn_storeL
def z:=ep (uY d6)
def G:=z.1
def F:=z.2.1
def ρ:=z.2.2.2.1
def H:=z.2.2.2.2.1
def s:=z.2.2.2.2.2.1
def env:=z.2.2.2.2.2.2.2.2.1
def x:=z.2.2.2.2.2.2.2.2.2.2.1
def v:=z.2.2.2.2.2.2.2.2.2.2.2.2.1
theorem T:d6 G F z.2.2.1 ρ H s z.2.2.2.2.2.2.1 z.2.2.2.2.2.2.2.1 env z.2.2.2.2.2.2.2.2.2.1 x z.2.2.2.2.2.2.2.2.2.2.2.1 v z.2.2.2.2.2.2.2.2.2.2.2.2.2.1 z.2.2.2.2.2.2.2.2.2.2.2.2.2.2:=by
 intro I hi hk hn r;have mF:=I.ev.meF
 have hl:env.kindOf x=some .local:=by
  rcases I.ev.names x _ hk with h|⟨h,_⟩
  ·exact h
  ·cases h
 obtain⟨m,hns,km⟩:=I.ev.loc;refine wpAny_storeName_local hl hns (λh' hn' hs'=>?_) (by rw[I.ev.kind];rfl);obtain⟨o',es',ep',g',d',r'⟩:=id hn';have af:Aft G F (λa=>a=env.locals) ρ H s ρ H {s with heap:=h',toks:=s.toks+1}:=Aft.frame I.sr ⟨h',_,rfl⟩ I.ev.locF (λb n=>hs'.2 b n) g';have af':=af.weak (M':=Me env) λ_ w=>.inl w;have mv:∀V v,TRel G ρ (F.or (aj ρ H)) s.heap V v->TRel G ρ (F.or (aj ρ H)) h' V v:=λV v t=>af'.trel mF t;have kc:∀c w,(∃x,env.cells.lookup x=some c)->s.heap.IsCell c w->h'.IsCell c w:=λc w ⟨x,hx⟩ ⟨o,g,d⟩=>⟨o,(hs'.2 c (I.ev.cL x c hx)).trans g,d⟩;refine⟨af,af',⟨I.ev.kind,I.ev.glob,I.ev.bui,I.ev.names,I.ev.locF,I.ev.celF,⟨_,hn',?_⟩,?_,?_,I.ev.apart,I.ev.cL⟩,?_⟩
 ·intro j W y e1 e2 e3;rcases dP e1 with ⟨rfl,rfl⟩|⟨ne,e1⟩
  ·rw[hi]at e2;cases e2;exact⟨v,by simp,mv _ _ r⟩
  ·have:y≠x:=λw=>ne (mL hn e2 (w▸hi));obtain⟨u,e4,t⟩:=km j W y e1 e2 e3;exact⟨u,by simp[this,e4],mv _ _ t⟩
 ·intro j W y e1 e2 e3;rcases dP e1 with ⟨rfl,rfl⟩|⟨ne,e1⟩
  ·rw[hi]at e2;cases e2;rw[hk]at e3;rcases e3 with e|e<;>cases e
  ·obtain⟨c,u,e4,ic,t⟩:=I.ev.cel j W y e1 e2 e3;exact⟨c,u,e4,kc c _ ⟨y,e4⟩ ic,mv _ _ t⟩
 ·intro y e;obtain⟨c,u,e4,ic⟩:=I.ev.cel0 y e;exact⟨c,u,e4,kc c _ ⟨y,e4⟩ ic⟩
 ·obtain⟨l,e,k⟩:=I.st;refine⟨l,e,λen hen=>?_⟩;obtain⟨k1,L,o,es,ep,e1,f,g,d⟩:=k en hen
  by_cases w:L=env.locals
  ·subst w;exact⟨k1,_,o',es',ep',e1,f,g',d'⟩
  ·exact⟨k1,L,o,es,ep,e1,f,(hs'.2 L w).trans g,d⟩
end Kn_storeL
end
theorem vQ{G F A ρ H s sc nm env σ x V0 v i E}:d6 G F A ρ H s sc nm env σ x V0 v i E:=cN (p:=uY d6) Kn_storeL.T (G,F,A,ρ,H,s,sc,nm,env,σ,x,V0,v,i,E)
variable{G:Cx}
variable{F F' M:Av}{A:Around}{ρ:List (Addr × Addr)}{H:Hp}{h h':Heap}
theorem SR.touch(x:SR G F ρ H h)(hn:∀a,F' a->F a\/h.get? a=none)(hk:∀b o,h.get? b=some o->¬F b->h'.get? b=some o)(th:∀b o,h.get? b=some o->∃o',h'.get? b=some o'):SR G F' ρ H h' where
 len:=x.len
 rel:=λi q o e g=>(x.rel i q o e g).ext (M:=F) (X:=F.or (aj ρ H)) (X':=F'.or (aj ρ H)) ⟨hk,th,λa w=>w.elim (λf=>(hn a f).imp_left .inl) λw=>.inl (.inr w)⟩ (λ_ m=>.inl m) (LP _) λa m f=>x.disj a ⟨i,q,o,e,g,m⟩ f
 apart:=x.apart
 disj:=λa w f=>(hn a f).elim (x.disj a w) λn=>by obtain⟨o,e⟩:=fz x w;rw[n]at e;cases e
 base:=λb o e=>hk b o (x.base b o e) λf=>by have:=x.above b (.inl f);rw[e]at this;cases this
 above:=λa w=>w.elim (λf=>(hn a f).elim (λf=>x.above a (.inl f)) λn=>by
  cases z:G.B.get? a with
  |none=>rfl
  |some o=>rw[x.base a o z]at n;cases n) λw=>x.above a (.inr w)
theorem mN{base:Heap}:∀{l:List Env},(∀env∈l,env.scope.kind≠.module/\∃L o es ep,env.frame=some L/\base.get? L=none/\h.get? L=some o/\o.data = .dict es ep)->h.FunFrames base l:=by
 intro l
 induction l with
 |nil=>
  intro _;exact trivial
 |cons env r ih=>
  intro k;obtain⟨k1,L,o,es,ep,e1,e2,e3,e4⟩:=k env (.head _);exact⟨k1,⟨L,o,e1,e2,e3,λvs w=>by rw[e4]at w;cases w⟩,ih λen hen=>k en (.tail _ hen)⟩
theorem yY{l:List Env}(e:A.frames=some l){env:Env}(hm:env∈l){L:Addr}(hf:env.frame=some L):L∈frs A:=by
 unfold frs;rw[e,Option.getD_some,List.mem_filterMap];exact⟨env,hm,hf⟩
end J.Internal
namespace J.Internal
noncomputable section
def fH(G:Cx)(F:Av)(A:Around)(ρ':List (Addr × Addr))(H':Hp)(s':Shared)(env:Env)(outer:List Env)(L:Addr)(E:Value->Shared->Prop)(ea:Addr)(Xs:Av)(oe:Obj)(vs:Array Value)(head:Value)(hn:Bool):Prop:=
 ∀(hfr:A.frames=some (env::outer))(hf:env.frame=some L)(hs:Stk F A s'.heap)(sr:SR G (F.or Xs) ρ' H' s'.heap)(hx:Xs ea)(he:s'.heap.get? ea=some oe)(hc:oe.cls=G.cF)(hd:oe.data = .fields vs)(hsz:1<vs.size)(hF:∀a,Xs a->¬F a)(Q:Unit->Shared->Prop)(k:∀h' (Xs':Av),Hu G.cF h' Xs' ea (some (some L))->(∀a,Xs' a->Xs a\/s'.heap.get? a=none)->SR G (F.or Xs') ρ' H' h'->Stk F A h'->
   (∀b o,s'.heap.get? b=some o->¬F b->¬Xs b->h'.get? b=some o)->(∀b o,F b->s'.heap.get? b=some o->UpS h' b o)->(∀b o,s'.heap.get? b=some o->∃o',h'.get? b=some o')->Q () {s' with heap:=h'}),wpAny (Md G) A (do let a <-frameOf env;let pl <-entryPlaceOf L hn;let b <-EntryCells.newEntry head a .none (rawInt L) .none pl;setField (.ref ea) 1 b) Q E s'
namespace KentryEX
def z:=ep (BO fH)
def A:=z.2.2.1
def s':=z.2.2.2.2.2.1
def env:=z.2.2.2.2.2.2.1
def L:=z.2.2.2.2.2.2.2.2.1
def ea:=z.2.2.2.2.2.2.2.2.2.2.1
def vs:=z.2.2.2.2.2.2.2.2.2.2.2.2.2.1
theorem T:fH z.1 z.2.1 A z.2.2.2.1 z.2.2.2.2.1 s' env z.2.2.2.2.2.2.2.1 L z.2.2.2.2.2.2.2.2.2.1 ea z.2.2.2.2.2.2.2.2.2.2.2.1 z.2.2.2.2.2.2.2.2.2.2.2.2.1 vs z.2.2.2.2.2.2.2.2.2.2.2.2.2.2.1 z.2.2.2.2.2.2.2.2.2.2.2.2.2.2.2:=by
 intro hfr hf hs sr hx he hc hd hsz hF Q k;obtain⟨l,hl,hk⟩:=hs;rw[hfr]at hl;cases hl;have hne:ea∉frs A:=λm=>hF ea hx (Stk.frs ⟨_,hfr,hk⟩ m);have hb:∀b o,s'.heap.get? b=some o->b∉ea::frs A->(hideAll s'.heap (ea::frs A)).get? b=some o:=λb o g n=>hideAll_get _ g n;have h0:vs[0]? = some vs[0]:=Array.getElem?_eq_getElem (by omega)
 have ff:s'.heap.FunFrames (hideAll s'.heap (ea::frs A)) (env::z.2.2.2.2.2.2.2.1):=mN λen hen=>by
  obtain⟨k1,L,o,es,ep,e1,f,g,d⟩:=hk en hen;exact⟨k1,L,o,es,ep,e1,hideAll_none _ (LK _ (yY hfr hen e1)),g,d⟩
 refine wpAny_entryW (base:=hideAll s'.heap (ea::frs A)) hfr ff hf he (λb o g=>of_hideAll _ g) (hideAll_none _ LL) hd hsz h0 λh' hN=>?_;obtain⟨k1,k2,⟨oe',vs',T,oT,ts,g1,⟨g2,_⟩,g3,g4,g5,g6,g7,g8,g9⟩,k4⟩:=hN
 have dat:∀b,b∈frs A->∃o es ep,s'.heap.get? b=some o/\o.data = .dict es ep:=λb m=>by
  unfold frs at m;rw[hfr,Option.getD_some,List.mem_filterMap]at m;obtain⟨en,hen,hb⟩:=m;obtain⟨_,L,o,es,ep,e1,f,g,d⟩:=hk en hen;rw[hb]at e1;cases e1;exact⟨o,es,ep,g,d⟩
 have keepB:∀b o,s'.heap.get? b=some o->b≠ea->b∉frs A->h'.get? b=some o:=λb o g n1 n2=>k1 b o (hb b o g (by simp[n1,n2]))
 have hT:s'.heap.get? T=none:=by
  cases z:s'.heap.get? T with
  |none=>rfl
  |some o=>
   by_cases w:T∈ea::frs A
   ·rcases LI.mp w with w|w
    ·exact absurd w g6
    ·obtain⟨o2,es,ep,g,d⟩:=dat T w;obtain⟨sl,gg⟩:=k4 T o2 g λvs w=>by rw[d]at w;cases w
     rw[g7]at gg;cases gg;rw[show({o2 with slots:=sl}:Obj).data=o2.data from rfl,d]at g8;cases g8
   ·rw[hb T o z w]at g5;cases g5
 have th:∀b o,s'.heap.get? b=some o->∃o',h'.get? b=some o':=λb o g=>by
  by_cases w:b=ea
  ·subst w;exact⟨_,g1⟩
  ·by_cases w2:b∈frs A
   ·obtain⟨o2,es,ep,g',d⟩:=dat b w2;obtain⟨sl,gg⟩:=k4 b o2 g' λvs w=>by rw[d]at w;cases w
    exact⟨_,gg⟩
   ·exact⟨o,keepB b o g w w2⟩
 have fF:∀b,b∈frs A->z.2.1 b:=λb m=>Stk.frs ⟨_,hfr,hk⟩ m;refine k h' (λa=>z.2.2.2.2.2.2.2.2.2.2.2.1 a\/a=T) ⟨.inl hx,oe',vs',T,oT,ts,.inr rfl,g1,g2.trans hc,g3,g4,g6,g7,g8,g9⟩ (λa w=>w.imp_right λ(w:a=T)=>w▸hT) ?_ ?_ ?_ ?_ th
 ·refine sr.touch (λa w=>?_) (λb o g n=>keepB b o g (λw=>n (.inr (w▸hx))) λm=>n (.inl (fF b m))) th;rcases w with f|f|f
  ·exact .inl (.inl f)
  ·exact .inl (.inr f)
  ·exact .inr (f▸hT)
 ·refine⟨_,hfr,λen hen=>?_⟩;obtain⟨q1,L,o,es,ep,e1,f,g,d⟩:=hk en hen;obtain⟨sl,gg⟩:=k4 L o g λvs w=>by rw[d]at w;cases w
  exact⟨q1,L,_,es,ep,e1,f,gg,d⟩
 ·exact λb o g n1 n2=>keepB b o g (λw=>n2 (w▸hx)) λm=>n1 (fF b m)
 ·intro b o f g
  by_cases w:b∈frs A
  ·obtain⟨o2,es,ep,g',d⟩:=dat b w;rw[g]at g';cases g';obtain⟨sl,gg⟩:=k4 b o g λvs w=>by rw[d]at w;cases w
   exact⟨sl,gg,λw=>absurd d (w _ _)⟩
  ·exact .of (keepB b o g (λw=>hF ea hx (w▸f)) w)
end KentryEX
end
theorem sf{G F A ρ' H' s' env outer L E ea Xs oe vs head hn}:fH G F A ρ' H' s' env outer L E ea Xs oe vs head hn:=cN (p:=BO fH) KentryEX.T (G,F,A,ρ',H',s',env,outer,L,E,ea,Xs,oe,vs,head,hn)
variable{G:Cx}
variable{F M:Av}{A:Around}{ρ ρ':List (Addr × Addr)}{H H':Hp}{s s':Shared}{h':Heap}
section
variable{st:Option (Option Addr)}{e:Value}{env:Env}{outer:List Env}{L:Addr}{E:Value->Shared->Prop}
theorem EX.note(hfr:A.frames=some (env::outer))(hf:env.frame=some L)(hX:∀a,F a->∃o,s.heap.get? a=some o)(x:EX G F M A ρ H s H' st e s')(hst:st=none\/st=some none\/st=some (some L)) :
  wpAny (Md G) A (noteFrame e env) (λ_ s''=>EX G F M A ρ H s H' (some (some L)) e s'') E s':=by
 obtain⟨⟨ea,ρ',Xs,rfl,⟨hxe,hx⟩,hn,hp,hs,hE⟩,hsm,hfm,hsk⟩:=x;have hF:∀a,Xs a->¬F a:=λa xs f=>by obtain⟨o,e⟩:=hX a f;rw[hn a xs]at e;cases e
 have th0:∀b,s'.heap.get? b=none->s.heap.get? b=none:=λb q=>by
  cases z:s.heap.get? b with
  |none=>rfl
  |some o=>obtain⟨o',e'⟩:=hE.there b o z;rw[e']at q;cases q
 have fin:∀(s1:Shared)(Xs1:Av),Same s s1->(∀a,Xs1 a->s.heap.get? a=none)->Ext (λa=>aj ρ H a\/F a) (F.or (aj ρ H)) (F.or (aj ρ' H')) s.heap s1.heap->
   (∀b o,F b->s.heap.get? b=some o->¬M b->UpS s1.heap b o)->
   ∀h' (Xs':Av),Hu G.cF h' Xs' ea (some (some L))->(∀a,Xs' a->Xs1 a\/s1.heap.get? a=none)->SR G (F.or Xs') ρ' H' h'->Stk F A h'->
   (∀b o,s1.heap.get? b=some o->¬F b->¬Xs1 b->h'.get? b=some o)->(∀b o,F b->s1.heap.get? b=some o->UpS h' b o)->(∀b o,s1.heap.get? b=some o->∃o',h'.get? b=some o')->
   EX G F M A ρ H s H' (some (some L)) (.ref ea) {s1 with heap:=h'}:=by
  intro s1 Xs1 sm1 n1 E1 f1 h' Xs' k1 k2 k3 k4 k5 k6 k7
  have th1:∀b,s1.heap.get? b=none->s.heap.get? b=none:=λb q=>by
   cases z:s.heap.get? b with
   |none=>rfl
   |some o=>obtain⟨o',e'⟩:=E1.there b o z;rw[e']at q;cases q
  refine⟨⟨ea,ρ',Xs',rfl,k1,λa w=>(k2 a w).elim (n1 a) (th1 a),hp,k3,⟨λb o g n=>?_,λb o g=>?_,E1.grow⟩⟩,sm1.trans ⟨h',s1.toks,rfl⟩,λb o f g n=>?_,k4⟩
  ·exact k5 b o (E1.keep b o g n) (λf=>n (.inr f)) λw=>by rw[n1 b w]at g;cases g
  ·obtain⟨o1,g1⟩:=E1.there b o g;exact k7 b o1 g1
  ·obtain⟨sl,g1,q⟩:=f1 b o f g n;exact .step q (k6 b _ f g1)
 rcases hst with rfl|rfl|rfl
 ·obtain⟨oe,vs,he,hc,hd,h1⟩:=hx;unfold noteFrame;simp only[hf];refine wpAny_bind (wpAny_field he hd h1 ?_);rw[if_neg (by decide)];exact sf hfr hf hsk hs hxe he hc hd (Array.getElem?_eq_some_iff.mp h1).1 hF _ (fin s' Xs hsm hn hE hfm)
 ·obtain⟨oe,vs,T,oT,ts,hxT,he,hc,hd,h1,hTe,hT,hdT,h3⟩:=hx;unfold noteFrame;simp only[hf];refine wpAny_bind (wpAny_field he hd h1 ?_);rw[if_pos (show(Value.ref T != Value.none)=true from by simp)];refine wpAny_bind (wpAny_field hT hdT h3 ?_);rw[if_neg (show ¬ ((Value.none==rawInt L)=true)from by simp[rawInt])];refine wpAny_bind (wpAny_setField hT hdT (Array.getElem?_eq_some_iff.mp h3).1 ?_);have other:∀b,b≠T->(s'.heap.update T (Obj.mapFields (·.setIfInBounds 3 Value.none))).get? b=s'.heap.get? b:=λb hb=>Heap.get?_update_other _ _ (Ne.symm hb);have gT:=Heap.get?_update_self (Obj.mapFields (·.setIfInBounds 3 Value.none)) hT (Obj.isFreed_of_fields (Obj.data_mapFields hdT _));have nF:∀b,F b->b≠T:=λb f w=>hF T hxT (w▸f)
  have hs1:SR G (F.or Xs) ρ' H' (s'.heap.update T (Obj.mapFields (·.setIfInBounds 3 Value.none))):=hs.touch (λa w=>.inl w) (λb o g n=>(other b λw=>n (.inr (w▸hxT))).trans g) λb o g=>by
   by_cases w:b=T
   ·subst w;exact⟨_,gT⟩
   ·exact⟨o,(other b w).trans g⟩
  have sk1:Stk F A (s'.heap.update T (Obj.mapFields (·.setIfInBounds 3 Value.none))):=by
   obtain⟨l,hl,hk⟩:=hsk;refine⟨l,hl,λen hen=>?_⟩;obtain⟨k1,L,o,es,ep,e1,f,g,d⟩:=hk en hen;exact⟨k1,L,o,es,ep,e1,f,(other L (nF L f)).trans g,d⟩
  refine sf (s':={s' with heap:=s'.heap.update T (Obj.mapFields (·.setIfInBounds 3 Value.none))}) hfr hf sk1 hs1 hxe ((other ea (Ne.symm hTe)).trans he) hc hd (Array.getElem?_eq_some_iff.mp h1).1 hF _
   (fin {s' with heap:=s'.heap.update T (Obj.mapFields (·.setIfInBounds 3 Value.none))} Xs (hsm.trans ⟨_,s'.toks,rfl⟩) hn ⟨λb o g n=>?_,λb o g=>?_,hE.grow⟩ λb o f g n=>?_)
  ·exact(other b λw=>by have:=hn T hxT;rw[<-w,g]at this;cases this).trans (hE.keep b o g n)
  ·obtain⟨o1,g1⟩:=hE.there b o g
   by_cases w:b=T
   ·subst w;exact⟨_,gT⟩
   ·exact⟨o1,(other b w).trans g1⟩
  ·obtain⟨sl,g1,q⟩:=hfm b o f g n;exact⟨sl,(other b (nF b f)).trans g1,q⟩
 ·obtain⟨oe,vs,T,oT,ts,hxT,he,hc,hd,h1,hTe,hT,hdT,h3⟩:=id hx;unfold noteFrame;simp only[hf];refine wpAny_bind (wpAny_field he hd h1 ?_);rw[if_pos (show(Value.ref T != Value.none)=true from by simp)];refine wpAny_bind (wpAny_field hT hdT h3 ?_);rw[if_pos (show(rawInt L==rawInt L)=true from by simp)];exact wpAny_pure ⟨⟨ea,ρ',Xs,rfl,⟨hxe,hx⟩,hn,hp,hs,hE⟩,hsm,hfm,hsk⟩
end
end J.Internal
namespace J.Internal
noncomputable section
def EX.flight_P(G:Cx)(F:Av)(M:Av)(A:Around)(ρ:List (Addr × Addr))(H:Hp)(H':Hp)(E:Value->Shared->Prop)(fl:Option Addr)(to:Option Addr):Prop:=
 ∀{s:Shared}{s':Shared}{e:Value}(hX:∀a,F a->∃o,s.heap.get? a=some o)(x:EX G F M A ρ H s H' (some fl) e s'),wpAny (Md G) A (setFlight e to) (λ_ s''=>EX G F M A ρ H s H' (some to) e s'') E s'
namespace KEX_flight
def zz:=ep (uX EX.flight_P)
def F:=zz.2.1
def to:=zz.2.2.2.2.2.2.2.2.2
theorem TT:EX.flight_P zz.1 F zz.2.2.1 zz.2.2.2.1 zz.2.2.2.2.1 zz.2.2.2.2.2.1 zz.2.2.2.2.2.2.1 zz.2.2.2.2.2.2.2.1 zz.2.2.2.2.2.2.2.2.1 to:=by
 intro s s' e hX x;obtain⟨⟨ea,ρ',Xs,rfl,⟨hxe,hx⟩,hn,hp,hs,hE⟩,hsm,hfm,hsk⟩:=x;have hF:∀a,Xs a->¬F a:=λa xs f=>by obtain⟨o,e⟩:=hX a f;rw[hn a xs]at e;cases e
 obtain⟨oe,vs,T,oT,ts,hxT,he,hc,hd,h1,hTe,hT,hdT,h3⟩:=hx;have hsz3:3<ts.size:=(Array.getElem?_eq_some_iff.mp h3).1;unfold setFlight;refine wpAny_bind (wpAny_field he hd h1 ?_);rw[if_pos (show(Value.ref T != Value.none)=true from by simp)];refine wpAny_setField hT hdT hsz3 ?_;have other:∀b,b≠T->(s'.heap.update T (Obj.mapFields (·.setIfInBounds 3 (to.elim Value.none λf=>rawInt f)))).get? b=s'.heap.get? b:=λb hb=>Heap.get?_update_other _ _ (Ne.symm hb);have gT:=Heap.get?_update_self (Obj.mapFields (·.setIfInBounds 3 (to.elim Value.none λf=>rawInt f))) hT (Obj.isFreed_of_fields (Obj.data_mapFields hdT _));have nF:∀b,F b->b≠T:=λb f w=>hF T hxT (w▸f);refine⟨⟨ea,ρ',Xs,rfl,⟨hxe,oe,vs,T,_,_,hxT,(other ea (Ne.symm hTe)).trans he,hc,hd,h1,hTe,gT,Obj.data_mapFields hdT _,?_⟩,hn,hp,?_,⟨λb o g n=>?_,λb o g=>?_,hE.grow⟩⟩,hsm.trans ⟨_,s'.toks,rfl⟩,λb o f g n=>?_,?_⟩
 ·cases to<;>simp[hsz3]
 ·refine hs.touch (λa w=>.inl w) (λb o g n=>(other b λw=>n (.inr (w▸hxT))).trans g) λb o g=>?_
  by_cases w:b=T
  ·subst w;exact⟨_,gT⟩
  ·exact⟨o,(other b w).trans g⟩
 ·exact(other b λw=>by have:=hn T hxT;rw[<-w,g]at this;cases this).trans (hE.keep b o g n)
 ·obtain⟨o1,g1⟩:=hE.there b o g
  by_cases w:b=T
  ·subst w;exact⟨_,gT⟩
  ·exact⟨o1,(other b w).trans g1⟩
 ·obtain⟨sl,g1,q⟩:=hfm b o f g n;exact⟨sl,(other b (nF b f)).trans g1,q⟩
 ·obtain⟨l,hl,hk⟩:=hsk;refine⟨l,hl,λen hen=>?_⟩;obtain⟨k1,L,o,es,ep,e1,f,g,d⟩:=hk en hen;exact⟨k1,L,o,es,ep,e1,f,(other L (nF L f)).trans g,d⟩
end KEX_flight
end
theorem EX.flight{G F M A ρ H H' E fl to}:EX.flight_P G F M A ρ H H' E fl to:=cN (p:=uX EX.flight_P) KEX_flight.TT (G,F,M,A,ρ,H,H',E,fl,to)
variable{G:Cx}
variable{F M:Av}{A:Around}{ρ ρ':List (Addr × Addr)}{H H':Hp}{s s':Shared}{h h':Heap}
section
variable{st:Option (Option Addr)}{e:Value}{env:Env}{outer:List Env}{L:Addr}{E:Value->Shared->Prop}
theorem EX.leaving(hfr:A.frames=some (env::outer))(hf:env.frame=some L)(hX:∀a,F a->∃o,s.heap.get? a=some o)(x:EX G F M A ρ H s H' st e s')(hst:st=none\/st=some none\/st=some (some L)) :
  wpAny (Md G) A (leaving env e) (λ_ s''=>EX G F M A ρ H s H' (some none) e s'') E s':=by
 unfold PySem.leaving;exact wpAny_bind (wpAny_mono (x.note hfr hf hX hst) (λ_ s'' y=>y.flight hX) λ_ _ y=>y)
theorem EX.back{fl:Option Addr}(hf:env.frame=some L)(hX:∀a,F a->∃o,s.heap.get? a=some o)(x:EX G F M A ρ H s H' (some fl) e s') :
  wpAny (Md G) A (do
   if (<-field e 1)==.none then unsupported "frame.own-activation:exception-without-traceback"
   setFlight e env.frame) (λ_ s''=>EX G F M A ρ H s H' (some (some L)) e s'') E s':=by
 have x':=x;obtain⟨⟨ea,ρ',Xs,rfl,⟨hxe,oe,vs,T,oT,ts,hxT,he,hc,hd,h1,_⟩,_⟩,_⟩:=x;refine wpAny_bind (wpAny_field he hd h1 ?_);rw[if_neg (show ¬ ((Value.ref T==Value.none)=true)from by simp),hf]
 first
  |exact x'.flight hX
  |exact wpAny_bind (wpAny_pure (x'.flight hX))
end
noncomputable def RFl(G:Cx)(F:Av)(ρ:List (Addr × Addr))(H:Hp)(h:Heap):Fl->Flow->Prop
 |.next,.next=>True
 |.ret v,.ret a=>TRel G ρ (F.or (aj ρ H)) h v a
 |_,_=>False
def SS(G:Cx)(F:Av)(A:Around)(sc:Scope)(nm:List Str)(env:Env)(Z:Option (Option Addr)->Prop)(f:ai->Hp->Out (Fl × ai))(t:Sem Flow):Prop:=
 ∀ ⦃ρ H s σ⦄,Inv G F A sc nm env ρ H σ s->Wps G F (Me env) A ρ H s t (λρ' H' h' r fl=>RFl G F ρ' H' h' r.1 fl/\EnvR G F ρ' H' sc nm env r.2 h'/\Stk F A h') Z (f σ H)
noncomputable def EF(G:Cx)(F:Av)(A:Around)(ρ:List (Addr × Addr))(H:Hp)(s:Shared)(c:Code):Out V->Prop
 |.ok b H'=>az (Md G) A c (λr s'=>∃a,r = .ok (.ret a)/\∃ρ',Aft G F al ρ H s ρ' H' s'/\TRel G ρ' (F.or (aj ρ' H')) s'.heap b a) s
 |.exc H'=>az (Md G) A c (λr s'=>∃e,r = .error e/\EX G F al A ρ H s H' (some none) e s') s
 |.bad=>True
def gu(G:Cx)(n:Nat)(C:Nat->List V->Hp->Out V):Prop:=
 ∀ ⦃f vs us F A ρ H s⦄,f<44->Rm n A->SR G F ρ H s.heap->(∀a,F a->∃o,s.heap.get? a=some o)->Stk F A s.heap->RTs G F ρ H s.heap vs us->
  EF G F A ρ H s (.call (.ref (G.fd f).addr) ⟨us,[]⟩) (C f vs H)
noncomputable abbrev vR(d:D9):FuncData:=fnOf d.name d.qual d.params d.body d.scope d.dV d.kV d.doc d.pm d.an d.cdv d.ct
structure Fo(G:Cx)(ar:Nat->Nat):Prop where
 fn:∀f,f<44->∃oc od osl,G.K.lookup (G.fd f).addr=some ⟨oc,od,.func (vR (G.fd f)),osl⟩
 code:∀f,f<44->codeIn G.K (G.fd f).cdv (G.fd f).qual=true
 flag:∀f,f<44->(G.fd f).scope.isCoroutine=false/\(G.fd f).scope.isGenerator=false/\(G.fd f).scope.kind = .function
 binds:∀f,f<44->∀us:List Value,us.length=ar f->∀s:Shared,tW G s.heap->BindsTo s (vR (G.fd f)) ⟨us,[]⟩ (((G.fd f).nm.take (ar f)).zip us)
 nm:∀f,f<44->(G.fd f).nm.Nodup/\ar f<=(G.fd f).nm.length/\(∀x,x∈(G.fd f).nm.take (ar f)->(G.fd f).scope.names.lookup x=some .local\/(G.fd f).scope.names.lookup x=some .cell)
 free:∀f,f<44->∀x,(G.fd f).scope.names.lookup x≠some .free
set_option tactic.hygienic true in
theorem iJ:∀(names:List (Str × NameKind))(n:Nat)(acc:List (Str × Addr))(x:Str),((x,NameKind.cell)∈names\/(acc.lookup x).isSome)->((cellsFrom n names acc).lookup x).isSome=true:=by
 intro names
 induction names with
 |nil=>
  intro _ acc x h;rcases h with h|h
  ·simp at h
  ·exact h
 |cons pp r ih=>
  obtain⟨y,k⟩:=pp;intro n acc x h;unfold cellsFrom
  split
  ·rename_i hk;refine ih _ _ x ?_
   by_cases w:x=y
   ·subst w;right;simp[List.lookup_cons]
   ·rcases h with h|h
    ·rcases LI.mp h with e|h
     ·cases e;exact absurd rfl w
     ·exact .inl h
    ·right;have:(x==y)=false:=by simpa using w
     simpa[List.lookup_cons,this]using h
  ·rename_i hk;refine ih _ _ x ?_;rcases h with h|h
   ·rcases LI.mp h with e|h
    ·cases e;exact absurd rfl hk
    ·exact .inl h
   ·exact .inr h
theorem eE{kindOf:Str->Option NameKind}(ns:List Str):∀(us:List Value)(m:Str->Option Value)(x:Str),x∉ns->bindL kindOf (ns.zip us) m x=m x/\bindC kindOf (ns.zip us) m x=m x:=by
 induction ns with
 |nil=>exact λ_ _ _ _=>⟨rfl,rfl⟩
 |cons n ns ih=>
  intro us m x h
  cases us with
  |nil=>exact⟨rfl,rfl⟩
  |cons u us=>
   have hn:x≠n:=λe=>h (e▸.head _);have ih:=λm=>ih us m x λw=>h (.tail _ w);simp only[List.zip_cons_cons,bindL,bindC];constructor
   ·rw[(ih _).1];split<;>simp[hn]
   ·rw[(ih _).2];split<;>simp[hn]
theorem oH{kindOf:Str->Option NameKind}{ns:List Str}:∀{us:List Value}{m mc:Str->Option Value}{i:Nat}{x:Str}{u:Value},ns.Nodup->ns[i]? = some x->us[i]? = some u->
  (kindOf x=some .local->bindL kindOf (ns.zip us) m x=some u)/\(kindOf x≠some .local->bindC kindOf (ns.zip us) mc x=some u):=by
 induction ns with
 |nil=>exact λ_ e _=>(by simp at e)
 |cons n ns ih=>
  intro us m mc i x u hn e1 e2;have hn:=Mp.mp hn
  cases us with
  |nil=>simp at e2
  |cons u' us=>
   simp only[List.zip_cons_cons,bindL,bindC]
   cases i with
   |zero=>
    cases e1;cases e2;exact⟨λk=>by rw[(eE ns us _ n hn.1).1];simp[k],λk=>by rw[(eE ns us _ n hn.1).2];simp[k]⟩
   |succ i=>exact ih hn.2 e1 e2
theorem RTs.get{vs:List V}:∀{us:List Value}{h:Heap}{i:Nat}{v:V},RTs G F ρ H h vs us->vs[i]? = some v->∃u,us[i]? = some u/\TRel G ρ (F.or (aj ρ H)) h v u:=by
 induction vs with
 |nil=>exact λ_ e=>(by simp at e)
 |cons x xs ih=>
  intro us h i v r e;obtain⟨a,r,rfl,h2,h3⟩:=r
  cases i with
  |zero=>cases e;exact⟨a,rfl,h2⟩
  |succ i=>exact ih (us:=r) h3 e
theorem vS(k:Nat):∀{i:Nat}{W:V}{P:Prop},aV (dW k) i=some W->P:=by
 induction k with
 |zero=>exact λh=>(by cases h)
 |succ k ih=>exact λ{i}{W}{P} h=>match i,h with|0,h=>(by cases h)|i+1,h=>ih (i:=i) h
theorem t5{vs:List V}:∀{k i:Nat}{W:V},aV (vs.map some++dW k) i=some W->vs[i]? = some W:=by
 induction vs with
 |nil=>exact λh=>vS _ h
 |cons v r ih=>
  intro k i W h
  cases i with
  |zero=>exact h
  |succ i=>exact ih h
noncomputable def aO(d:D9)(L:Addr):Env:=newEnv d.scope L mainGlobals (cellsFrom (L+1) d.scope.names []) (d.qual ++ ".<locals>.") (some d.addr) d.cdv none builtinsNs
theorem oI{cs:List (Str × Addr)}(hp:cs.Pairwise λx y=>x.2≠y.2){x y:Str}{c:Addr}(h1:cs.lookup x=some c)(h2:cs.lookup y=some c):x=y:=
 name_of_addr hp (mem_of_lookup h1) (mem_of_lookup h2)
theorem qt{α:Type}:∀{l:List (Str × α)}{x:Str}{a:α},l.lookup x=some a->(x,a)∈l:=λh=>mem_of_lookup h
end J.Internal
namespace J.Internal
noncomputable section
def jq(G:Cx)(F:Av)(A:Around)(ρ:List (Addr × Addr))(H:Hp)(ar:Nat->Nat)(f:Nat)(vs:List V)(us:List Value)(sl:Nat)(L:Addr):Prop:=
 ∀{s:Shared}{s':Shared}(fo:Fo G ar)(hf:f<44)(sr:SR G F ρ H s.heap)(hF:∀a,F a->∃o,s.heap.get? a=some o)(hS:Stk F A s.heap)(rt:RTs G F ρ H s.heap vs us)(hl:vs.length=ar f)(hx:InCallC s L (bindL (aO (G.fd f) L).kindOf (((G.fd f).nm.take (ar f)).zip us) λ_=>none) (aO (G.fd f) L).cells (bindC (aO (G.fd f) L).kindOf (((G.fd f).nm.take (ar f)).zip us) λ_=>none) s'),Inv G (F.or (Me (aO (G.fd f) L))) (A.deeper (aO (G.fd f) L)) (G.fd f).scope (G.fd f).nm (aO (G.fd f) L) ρ H (vs.map some++dW sl) s'/\
   (∀x,Me (aO (G.fd f) L) x->s.heap.get? x=none)/\Same s s'/\(∀b o,s.heap.get? b=some o->s'.heap.get? b=some o)
namespace Kenter
def zz:=ep (BM jq)
def G:=zz.1
def F:=zz.2.1
def A:=zz.2.2.1
def ρ:=zz.2.2.2.1
def H:=zz.2.2.2.2.1
def ar:=zz.2.2.2.2.2.1
def f:=zz.2.2.2.2.2.2.1
def vs:=zz.2.2.2.2.2.2.2.1
def L:=zz.2.2.2.2.2.2.2.2.2.2
theorem TT:jq G F A ρ H ar f vs zz.2.2.2.2.2.2.2.2.1 zz.2.2.2.2.2.2.2.2.2.1 L:=by
 intro s s' fo hf sr hF hS rt hl hx;obtain⟨⟨⟨h1,tk,rfl⟩,hns,hk,hfr⟩,hcell,hap,hab⟩:=hx;dsimp only at hns hk hcell;obtain⟨oL,esL,epL,gL,dL,rL⟩:=id hns
 have fresh:∀x,Me (aO (G.fd f) L) x->s.heap.get? x=none:=λx m=>by
  cases z:s.heap.get? x with
  |none=>rfl
  |some o=>
   have hlt:=Heap.lt_size z;rcases m with w|⟨y,c,hy,w⟩
   ·have w':x=L:=w;rw[w']at hlt;exact absurd hlt (Nat.not_lt.mpr hfr)
   ·have h1:L<c:=hab y c (mem_of_lookup hy);rw[w]at hlt;exact absurd (Nat.lt_trans h1 hlt) (Nat.not_lt.mpr hfr)
 have fl:=fo.flag f hf;obtain⟨n1,n2,n3⟩:=fo.nm f hf
 have E:Ext al (F.or (aj ρ H)) ((F.or (Me (aO (G.fd f) L))).or (aj ρ H)) s.heap h1:=⟨λb o e _=>hk b o e,λb o e=>⟨o,hk b o e⟩,λa w=>by
  rcases w with (w|w)|w
  ·exact .inl (.inl w)
  ·exact .inr (fresh a w)
  ·exact .inl (.inr w)⟩
 have tr:∀v u,TRel G ρ (F.or (aj ρ H)) s.heap v u->TRel G ρ ((F.or (Me (aO (G.fd f) L))).or (aj ρ H)) h1 v u:=λv u r=>r.ext E (λ_ m=>m.elim) (LP _);have tn:((G.fd f).nm.take (ar f)).Nodup:=n1.sublist (List.take_sublist _ _)
 have param:∀i W y,aV (vs.map some++dW zz.2.2.2.2.2.2.2.2.2.1) i=some W->(G.fd f).nm[i]? = some y->∃u,zz.2.2.2.2.2.2.2.2.1[i]? = some u/\((G.fd f).nm.take (ar f))[i]? = some y/\TRel G ρ ((F.or (Me (aO (G.fd f) L))).or (aj ρ H)) h1 W u:=λi W y e1 e2=>by
  have e3:=t5 e1;obtain⟨u,e4,t⟩:=RTs.get rt e3;refine⟨u,e4,?_,tr _ _ t⟩;rw[List.getElem?_take,if_pos (by rw[<-hl];exact(LE.mp e3).1)];exact e2
 have kO:∀x,(aO (G.fd f) L).kindOf x=(G.fd f).scope.names.lookup x:=λx=>rfl;refine⟨⟨?_,⟨fl.2.2,rfl,rfl,λx k e=>.inl e,.inr (.inl rfl),λx c e=>.inr (.inr ⟨x,c,e,rfl⟩),⟨_,hns,?_⟩,?_,?_,λx y c=>oI hap,λx c e=>?_⟩,?_,?_⟩,fresh,⟨h1,tk,rfl⟩,hk⟩
 ·exact sr.touch (λa w=>w.imp_right (fresh a)) (λb o e _=>hk b o e) λb o e=>⟨o,hk b o e⟩
 ·intro i W y e1 e2 e3;obtain⟨u,e4,e5,t⟩:=param i W y e1 e2;exact⟨u,(oH (mc:=λ_=>none) tn e5 e4).1 ((kO y).trans e3),t⟩
 ·intro i W y e1 e2 e3;obtain⟨u,e4,e5,t⟩:=param i W y e1 e2;have ek:(G.fd f).scope.names.lookup y=some .cell:=e3.elim id λw=>absurd w (fo.free f hf y);have hc:=iJ (G.fd f).scope.names (L+1) [] y (.inl (mem_of_lookup ek));obtain⟨c,hc⟩:=Option.isSome_iff_exists.mp hc;refine⟨c,u,hc,?_,t⟩;have:=hcell y c hc;rwa[(oH (m:=λ_=>none) tn e5 e4).2 (by rw[kO,ek];intro w;cases w)]at this
 ·intro y e;have ek:(G.fd f).scope.names.lookup y=some .cell:=e.elim id λw=>absurd w (fo.free f hf y);have hc:=iJ (G.fd f).scope.names (L+1) [] y (.inl (mem_of_lookup ek));obtain⟨c,hc⟩:=Option.isSome_iff_exists.mp hc;exact⟨c,_,hc,hcell y c hc⟩
 ·exact Nat.ne_of_gt (hab x c (mem_of_lookup e))
 ·obtain⟨l,e,k⟩:=hS;refine⟨aO (G.fd f) L::l,by show A.frames.map _=_;rw[e];rfl,λen hen=>?_⟩;rcases LI.mp hen with rfl|hen
  ·exact⟨(by show(G.fd f).scope.kind≠_;rw[fl.2.2];intro w;cases w),L,oL,esL,epL,rfl,.inr (.inl rfl),gL,dL⟩
  ·obtain⟨k1,L1,o,es,ep,e1,f1,g,d⟩:=k en hen;exact⟨k1,L1,o,es,ep,e1,.inl f1,hk _ _ g,d⟩
 ·intro a w;rcases w with w|w
  ·obtain⟨o,e⟩:=hF a w;exact⟨o,hk a o e⟩
  ·rcases w with w|⟨y,c,hy,w⟩
   ·exact⟨oL,by rw[show a=L from w];exact gL⟩
   ·obtain⟨o,g,_⟩:=hcell y c hy;exact⟨o,by rw[w];exact g⟩
end Kenter
end
theorem enter{G F A ρ H ar f vs us sl L}:jq G F A ρ H ar f vs us sl L:=cN (p:=BM jq) Kenter.TT (G,F,A,ρ,H,ar,f,vs,us,sl,L)
variable{G:Cx}
variable{F:Av}{A:Around}{ρ ρ':List (Addr × Addr)}{H H':Hp}{s s':Shared}
def Zl(env:Env):Option (Option Addr)->Prop:=λst=>st=none\/st=some none\/st=some env.frame
def vT(G:Cx)(P:jc)(FN:Nat->Fn)(n:Nat)(C:Nat->List V->Hp->Out V):Prop:=
 ∀ ⦃f F A L outer⦄,f<44->A.frames=some (aO (G.fd f) L::outer)->Rm n A->SS G F A (G.fd f).scope (G.fd f).nm (aO (G.fd f) L) (Zl (aO (G.fd f) L)) (bA P C (FN f).body) (execs (G.fd f).body (aO (G.fd f) L))
theorem Rm.deeper{n:Nat}{ar:Nat->Nat}(fo:Fo G ar){f:Nat}(hf:f<44){L:Addr}(r:Rm (n+1) A):Rm n (A.deeper (aO (G.fd f) L)):=by
 have fl:=fo.flag f hf;obtain⟨env,l,e,_⟩:=r.fr;refine⟨r.hd,?_,⟨aO (G.fd f) L,env::l,by show A.frames.map _=_;rw[e];rfl,fl.2.1,fl.1,rfl,rfl⟩,?_,r.gd⟩
 ·have:=r.dp;show A.depth+1+3*n+103<recursionLimit;lia
 ·have:=r.un;show A.units+3+60*n+60<cLine;lia
theorem lQ{ar:Nat->Nat}{P:jc}{FN:Nat->Fn}{n:Nat}{C:Nat->List V->Hp->Out V}(bg:Bg G)(fo:Fo G ar)(har:∀f,f<44->(FN f).arity=ar f)(hB:vT G P FN n C) :
  ∀ ⦃f vs us F A ρ H s⦄,f<44->A.depth+103<recursionLimit->(∀L,Rm n (A.deeper (aO (G.fd f) L)))->SR G F ρ H s.heap->(∀a,F a->∃o,s.heap.get? a=some o)->Stk F A s.heap->RTs G F ρ H s.heap vs us->
  EF G F A ρ H s (.call (.ref (G.fd f).addr) ⟨us,[]⟩) (guard (decide (vs.length=(FN f).arity)) (dH (FN f).keep H.length (bA P C (FN f).body (vs.map some++dW ((FN f).slots - (FN f).arity)) H))):=by
 intro f vs us F A ρ H s hf rdp rmd sr hF hS rt
 cases hl:decide (vs.length=(FN f).arity)with
 |false=>trivial
 |true=>
  have hl:=of_decide_eq_true hl;rw[har f hf]at hl;have hul:us.length=ar f:=by rw[RTs.length rt,hl]
  show EF _ _ _ _ _ _ _ (dH _ _ _);have fl:=fo.flag f hf;obtain⟨n1,n2,n3⟩:=fo.nm f hf;obtain⟨oc,od,osl,hK⟩:=fo.fn f hf;have X:=bg.inH sr;obtain⟨outer,hfr,hSk⟩:=hS;have hS:Stk F A s.heap:=⟨outer,hfr,hSk⟩;have go:∀(R:Result->Shared->Prop),
    (∀s1 L,(InCallC s L (bindL (aO (G.fd f) L).kindOf (((G.fd f).nm.take (ar f)).zip us) λ_=>none) (aO (G.fd f) L).cells (bindC (aO (G.fd f) L).kindOf (((G.fd f).nm.take (ar f)).zip us) λ_=>none) s1)->
     wpS (Md G) (A.deeper (aO (G.fd f) L)) (execs (G.fd f).body (aO (G.fd f) L)) (λfl s'=>R (.ok (.ret (match fl with|.ret v=>v|_=>.none))) s')
      (λe s'=>wpS (Md G) (A.deeper (aO (G.fd f) L)) (leaving (aO (G.fd f) L) e) (λ_ s''=>R (.error e) s'') (λe' s''=>R (.error e') s'') s') s1)->
    az (Md G) A (.call (.ref (G.fd f).addr) ⟨us,[]⟩) R s:=by
   intro R hR;refine iC (fd:=vR (G.fd f)) (body:=(G.fd f).body) (by omega) (X _ _ hK) rfl fl.1 fl.2.1 rfl (codeRec_of X (fo.code f hf)) (ah (fo.binds f hf us hul s sr.base _ _ _ _ ?_));refine ah (wpAny_newFunctionEnv_cells fl.2.2 (λx hx=>?_) λenv he s1 hx=>?_)
   ·have hm:x.1∈(G.fd f).nm.take (ar f):=(List.of_mem_zip hx).1;rcases n3 x.1 hm with e|e
    ·exact .inl e
    ·exact .inr ⟨e,iJ _ _ _ _ (.inl (mem_of_lookup e))⟩
   ·have he':env=aO (G.fd f) s.heap.objs.size:=he;subst he';refine⟨bg.bf.nolimit.keeps λb o e=>hx.toInCall.keep b o (sr.base b o e),yG (hR s1 _ hx)⟩
  have fin:=λ(L:Addr)(s1:Shared) hx=>enter (A:=A) fo hf (vs:=vs) (us:=us) (sl:=(FN f).slots - (FN f).arity) sr hF hS rt hl (L:=L) (s':=s1) hx;have body:=λ(L:Addr)(s1:Shared) hx=>hB (F:=F.or (Me (aO (G.fd f) L))) (A:=A.deeper (aO (G.fd f) L)) (L:=L) (outer:=outer) hf (by show A.frames.map _=_;rw[hfr];rfl) (rmd L) (fin L s1 hx).1;generalize bA P C (FN f).body (vs.map some++dW ((FN f).slots - (FN f).arity)) H=x at body;have join:∀{L:Addr}{s1:Shared}{ρ':List (Addr × Addr)}{H':Hp}{s2:Shared},(∀x,Me (aO (G.fd f) L) x->s.heap.get? x=none)->Same s s1->(∀b o,s.heap.get? b=some o->s1.heap.get? b=some o)->
    Aft G (F.or (Me (aO (G.fd f) L))) (Me (aO (G.fd f) L)) ρ H s1 ρ' H' s2->Aft G (F.or (Me (aO (G.fd f) L))) (Me (aO (G.fd f) L)) ρ H s ρ' H' s2:=by
   intro L s1 ρ' H' s2 fr sm k a;refine⟨sm.trans a.same,a.pre,a.sr,⟨λb o e n=>a.ext.keep b o (k b o e) n,λb o e=>a.ext.there b o (k b o e),λc w=>(a.ext.grow c w).imp_right λq=>?_⟩,λb o fb e n=>a.frm b o fb (k b o e) n⟩
   cases z:s.heap.get? c with
   |none=>rfl
   |some o=>rw[k c o z]at q;cases q
  cases x with
  |bad=>trivial
  |ok r H'=>
   unfold dH;dsimp only
   cases hr:r.1.plain with
   |false=>trivial
   |true=>
    have main:∀(hfine:(FN f).keep=false->a8 H.length (H'.take H.length)=true),
      az (Md G) A (.call (.ref (G.fd f).addr) ⟨us,[]⟩) (λrr s2=>∃a,rr = .ok (.ret a)/\∃ρ',Aft G F al ρ H s ρ' (eM (FN f).keep H.length H') s2/\
       TRel G ρ' (F.or (aj ρ' (eM (FN f).keep H.length H'))) s2.heap r.1.val a) s:=by
     intro hfine;refine go _ λs1 L hx=>?_;obtain⟨I1,fr,sm,k⟩:=fin L s1 hx;have b:=body L s1 hx;refine ag (show wpS _ _ _ _ _ _ from b) (λflw s2 q=>?_) λ_ _ q=>q.elim;obtain⟨ρ',af,hfl,_,_⟩:=q;have af2:=Aft.leave (keep:=(FN f).keep) (join fr sm k af) fr sr hfine;refine⟨_,rfl,_,af2,?_⟩;obtain⟨r1,r2⟩:=r;have rv:∀{v:V}{a:Value},v.isObj=false->TRel G ρ' ((F.or (Me (aO (G.fd f) L))).or (aj ρ' H')) s2.heap v a->
       TRel G (eM (FN f).keep H.length ρ') (F.or (aj (eM (FN f).keep H.length ρ') (eM (FN f).keep H.length H'))) s2.heap v a:=by
      intro v a hv t;have t1:=dZ hv t;refine aF (Rel.ext G (jp λa w=>?_) (λ_ m=>m.elim) t1);rcases w with w|w
      ·exact .inl (.inl w)
      ·refine .inr ?_
       cases hkp:(FN f).keep with
       |true=>rw[hkp]at w;exact w
       |false=>rw[hkp]at w;exact db w
     cases r1 with
     |next=>
      cases flw with
      |next=>exact rv rfl jo
      |_=>exact hfl.elim
     |ret v=>
      cases flw with
      |ret a=>exact rv (v:=v) ((Mv v.isObj).mp hr) hfl
      |_=>exact hfl.elim
    cases hkp:(FN f).keep with
    |true=>
     have:=main (by rw[hkp];intro w;cases w);rw[hkp]at this;exact this
    |false=>
     cases hfn:a8 H.length (H'.take H.length)with
     |false=>trivial
     |true=>
      have:=main λ_=>hfn;rw[hkp]at this;exact this
  |exc H'=>
   unfold dH;dsimp only
   cases hfn:a8 H.length (H'.take H.length)with
   |false=>trivial
   |true=>
    refine go _ λs1 L hx=>?_;obtain⟨I1,fr,sm,k⟩:=fin L s1 hx;have b:=body L s1 hx;refine ag (show wpS _ _ _ _ _ _ from b) (λ_ _ q=>q.elim) λe s2 q=>?_;obtain⟨st,hz,q⟩:=q;have q':EX G (F.or (Me (aO (G.fd f) L))) (Me (aO (G.fd f) L)) (A.deeper (aO (G.fd f) L)) ρ H s1 H' st e s2:=q;refine ah (wpAny_mono (EX.leaving (E:=λ_ _=>False) (env:=aO (G.fd f) L) (outer:=outer) (L:=L) (by show A.frames.map _=_;rw[hfr];rfl) rfl I1.ft q' hz) (λ_ s3 q3=>?_) λ_ _ w=>?_)
    ·refine⟨e,rfl,?_⟩;obtain⟨⟨ea,ρ',Xs,he,hx',hn,hp,hs,hE⟩,hsm,hfm,hsk⟩:=q3
     have th:∀b,s1.heap.get? b=none->s.heap.get? b=none:=λb q=>by
      cases z:s.heap.get? b with
      |none=>rfl
      |some o=>rw[k b o z]at q;cases q
     have q4:EX G (F.or (Me (aO (G.fd f) L))) (Me (aO (G.fd f) L)) (A.deeper (aO (G.fd f) L)) ρ H s H' (some none) e s3:=
      ⟨⟨ea,ρ',Xs,he,hx',λa w=>th a (hn a w),hp,hs,⟨λb o e n=>hE.keep b o (k b o e) n,λb o e=>hE.there b o (k b o e),λc w=>(hE.grow c w).imp_right (th c)⟩⟩,sm.trans hsm,λb o fb e n=>hfm b o fb (k b o e) n,hsk⟩
     refine q4.leave fr sr hfn ?_;refine⟨outer,hfr,λen hen=>?_⟩;obtain⟨k1,L1,o,es,ep,e1,f1,g,d⟩:=hSk en hen;obtain⟨sl,g',_⟩:=hfm L1 o (.inl f1) (k _ _ g) λm=>by rw[fr L1 m]at g;cases g
     exact⟨k1,L1,_,es,ep,e1,f1,g',d⟩
    ·exact w.elim
end J.Internal
namespace J.Internal
variable{G:Cx}
variable{F M:Av}{A:Around}{ρ:List (Addr × Addr)}{H H':Hp}{s s':Shared}{h:Heap}{Z:Option (Option Addr)->Prop}
section
variable{sc:Scope}{nm:List Str}{env:Env}{σ:ai}{n:Nat}{pos p apos:Pos}{x:Str}{C:Nat->List V->Hp->Out V}{P:jc}
theorem gw{f:Value}{us:List Value}{x:Out V}(hZ:Z (some none))(h:EF G F A ρ H s (.call f ⟨us,[]⟩) x):Wps G F al A ρ H s (call f us) (RV G F) Z x:=by
 cases x with
 |bad=>trivial
 |ok b H'=>exact ds (bX (show az _ _ _ _ _ from h) λr s' q=>by obtain⟨a,rfl,q⟩:=q;exact q)
 |exc H'=>exact ds (bX (show az _ _ _ _ _ from h) λr s' q=>by obtain⟨e,rfl,q⟩:=q;exact⟨_,hZ,q⟩)
structure Na(G:Cx)(P:jc):Prop where
 gl:∀f,f<44->P.cls f=99->nsIn G.K mainGlobals (G.gn f)=some (some (.ref (G.fd f).addr))
 keep:∀f,f<44->keepIn G.K (.ref (G.fd f).addr)=true
 mt:∀f,f<44->P.cls f<3->findIn G.K (.ref (G.ca (P.cls f))) (G.gn f)=some (some (.ref (G.fd f).addr))/\typeIn G.K (.ref (G.fd f).addr)=some (.type "function")/\∀k,gp (P.cls f) k=true->S' (G.an k)≠G.gn f
 ini:∀c,c<3->P.ini c<44/\findIn G.K (.ref (G.ca c)) "__init__" = some (some (.ref (G.fd (P.ini c)).addr))/\typeIn G.K (.ref (G.fd (P.ini c)).addr)=some (.type "function")/\makesIn G.K (G.ca c)=true/\keepIn G.K (.ref (G.ca c))=true
theorem Co{f:Nat}{es:List Expr}{g:ai->Hp->Out (List V)}(bg:Bg G)(gl:Gl G)(na:Na G P)(hc:gu G n C)(rm:Rm n A)(hZ:Z (some none))(hf:f<44)(hcl:P.cls f=99)
  (hx:sc.names.lookup (G.gn f)=some .globalImplicit) (hd:(G.gn f==("__debug__" : Str))=false) (hp:Pl (backTo pos (starEach es env))) (ha:lx G F A sc nm env Z g (spliced (backTo pos (starEach es env)))) :
  SE G F A sc nm env Z (λσ H=>(g σ H).vb λvs H1=>C f vs H1) (eval (.Call (.Name (G.gn f) p) es [] pos) env):=λρ H s σ I=>by
 rw[arm_eval_Call_Name'];refine Wps.via (λQ E q=>aa (ah (jT bg gl I hx hd (na.gl f hf hcl) q))) ?_;refine c9 hp (mG bg (na.keep f hf)) I (ha I) λus vs ρ1 H1 s1 e1 a1 I1 r1=>?_;exact gw hZ (hc hf rm I1.sr I1.ft I1.st r1)
theorem t7{X:Av}{m:Str}(bg:Bg G):∀{fs:List (Nat × V)}{es:List DictEntry},(∀q∈fs,S' (G.an q.1)≠m)->TRelA G ρ X h fs es->getL m es=some none:=by
 intro fs
 induction fs with
 |nil=>
  intro _ _ r;rw[show _=[]from r];rfl
 |cons pp fs ih=>
  obtain⟨k,v⟩:=pp;rintro _ hm ⟨e,q,a,b,c,d⟩;subst a;have h1:=ih (λq hq=>hm q (LK _ hq)) d
  have h2:e.key.isStr m=false:=by
   obtain⟨⟨t,hk⟩,_⟩:=b;rw[hk];exact decide_eq_false λw=>hm (k,v) LL w
  have h3:=r8 b;unfold getL at h1 ⊢;rw[List.find?_cons,h2];dsimp only;rw[List.any_cons,h3,Bool.false_or];exact h1
theorem i0{c f:Nat}{xa dx:Addr}{es:List DictEntry}{m:Nat}{fs:List (Nat × V)}{pl:Sem Bool}{Q:Value × List Value->Shared->Prop}{E:Value->Shared->Prop}(bg:Bg G)(na:Na G P)(sr:SR G F ρ H s.heap)(hf:f<44)(hc:c=P.cls f)(h3:c<3)
  (hv:(fs.all λp=>gp c p.1)=true) (g:s.heap.get? xa=some (instObj (G.ca c) dx)) (gd:s.heap.get? dx=some (dictOf es m)) (l:TRelA G ρ (F.or (aj ρ H)) s.heap fs es) (q:Q (.ref (G.fd f).addr,[.ref xa]) s) :
  wpAny (Md G) A (getMethod (.ref xa) (G.gn f) pl) Q E s:=by
 subst hc;obtain⟨m1,m2,m3⟩:=na.mt f hf h3;obtain⟨c1,c2,c3,c4⟩:=bg.cls _ h3;have hI:InstAt s.heap xa (instObj (G.ca (P.cls f)) dx) (G.ca (P.cls f)) (some (dictOf es m)):=⟨g,rfl,rfl,gd⟩;refine method_fn (bg.inH sr) hI (plainGet_of c1).1 (plainGet_of c1).2 m1 m2 ?_ q;show(lookIn (G.gn f) (dictOf es m)).map _=_;rw[lookIn_dict,t7 bg (λq hq=>m3 q.1 (L9.mp hv q hq)) l]
 rfl
theorem EG{c:Nat}{v:V}{P:V->Prop}(h:jd c v H=true)(h1:∀i fs,ak H i=some (.ins c fs)->P (.obj i))(h2:∀fs,P (.rcd c fs)):P v:=
 kR (P:=λv b=>b=true->P v) (λw=>qq w λi o ho hf=>
   D8 (f:=λ(k:Nat) _=>decide (k=c)) (d:=false) (P:=λo b=>ak H i=some o->b=true->P (.obj i)) (λ_ w=>(by cases w)) (λk fs e w=>h1 i fs (of_decide_eq_true w▸e)) ho hf)
  (λk fs w=>of_decide_eq_true (show decide (k=c)=true from w)▸h2 fs) h
theorem Cp{f:Nat}{o:Expr}{es:List Expr}{e:ai->Hp->Out V}{g:ai->Hp->Out (List V)}(bg:Bg G)(na:Na G P)(hc:gu G n C)(rm:Rm n A)(hZ:Z (some none))(hf:f<44)(h3:P.cls f<3)
  (hb:∀id p q,o≠.Call (.Name id p) [] [] q\/(id != "super")=true) (hl:(apos.endLine==pos.line)=true) (hn:es.length<30)
  (hp:Pl (backTo pos (starEach es env))) (ho:SE G F A sc nm env Z e (eval o env)) (ha:lx G F A sc nm env Z g (spliced (backTo pos (starEach es env)))) :
  SE G F A sc nm env Z (λσ H=>(e σ H).vb λx H1=>guard (jd (P.cls f) x H1) ((g σ H1).vb λvs H2=>C f (x::vs) H2)) (eval (.Call (.Attribute o (G.gn f) apos) es [] pos) env):=λρ H s σ I=>by
 refine eY (k:=λx H1=>guard (jd (P.cls f) x H1) ((g σ H1).vb λvs H2=>C f (x::vs) H2)) hb hl hp hn ho I λx b ρ1 H1 s1 a1 I1 r1=>?_
 cases hL:jd (P.cls f) b H1 with
 |false=>exact .inl rfl
 |true=>
  have fin:∀xa b,TRel G ρ1 (F.or (aj ρ1 H1)) s1.heap b (.ref xa)->(∀(pl:Sem Bool)(Q:Value × List Value->Shared->Prop)(E:Value->Shared->Prop),Q (.ref (G.fd f).addr,[.ref xa]) s1->wpAny (Md G) A (getMethod (.ref xa) (G.gn f) pl) Q E s1)->
    ∃cal:Value × List Value,(∀(pl:Sem Bool)(Q:Value × List Value->Shared->Prop)(E:Value->Shared->Prop),Q cal s1->wpAny (Md G) A (getMethod (.ref xa) (G.gn f) pl) Q E s1)/\
     Wps G F al A ρ1 H1 s1 (callWith pos cal.1 cal.2 (backTo pos (starEach es env)) []) (RV G F) Z ((g σ H1).vb λvs H2=>C f (b::vs) H2):=λxa b r1 hm=>
   ⟨(.ref (G.fd f).addr,[.ref xa]),hm,c9 hp (mG bg (na.keep f hf)) I1 (ha I1) λus vs ρ2 H2 s2 e2 a2 I2 r2=>
    gw hZ (hc hf rm I2.sr I2.ft I2.st ⟨.ref xa,us,rfl,a2.trel (λ_ q=>q.elim) r1,r2⟩)⟩
  exact .inr (EG (P:=λb=>TRel G ρ1 (F.or (aj ρ1 H1)) s1.heap b x->∃cal:Value × List Value,(∀(pl:Sem Bool)(Q:Value × List Value->Shared->Prop)(E:Value->Shared->Prop),Q cal s1->wpAny (Md G) A (getMethod x (G.gn f) pl) Q E s1)/\
     Wps G F al A ρ1 H1 s1 (callWith pos cal.1 cal.2 (backTo pos (starEach es env)) []) (RV G F) Z ((g σ H1).vb λvs H2=>C f (b::vs) H2)) hL
   (λi fs hg r=>r.elim λq w=>by
    obtain⟨⟨z,z'⟩,gx,es',m,gd,l⟩:=I1.sr.rel i q _ w.1 hg
    exact w.2▸fin q.1 _ ⟨q,w.1,rfl⟩ λpl Q E q'=>i0 bg na I1.sr hf rfl h3 z gx gd l q')
   (λfs r=>by
    obtain⟨z,xa,dx,es',m,rfl,_,_,gx,gd,l⟩:=(show _/\∃b dx es n,x = .ref b/\_ from r)
    exact fin xa _ r λpl Q E q'=>i0 bg na I1.sr hf rfl h3 z gx gd (lO l) q') r1)
theorem Rm.down(r:Rm (n+1) A):Rm n A:=⟨r.hd,by have:=r.dp;omega,r.fr,by have:=r.un;omega,r.gd⟩
theorem jZ(A:Around)(c:Addr)(rest:List Value):A.under (.builtin "type.__call__" ⟨.ref c::rest,[]⟩) = {A with depth:=A.depth+1,units:=A.units+1}:=by
 have h1:(Code.builtin "type.__call__" ⟨.ref c::rest,[]⟩).weight=1:=by rfl
 have h2:(Code.builtin "type.__call__" ⟨.ref c::rest,[]⟩).envs=[]:=by rfl
 have h3:(Code.builtin "type.__call__" ⟨.ref c::rest,[]⟩).guards=[]:=by rfl
 have h4:(Code.builtin "type.__call__" ⟨.ref c::rest,[]⟩).cUnits=1:=by rfl
 unfold Around.under;rw[h1,h2,h3,h4]
 cases A with
 |mk hd dp fr gd un=>cases fr<;>cases gd<;>rfl
theorem Rm.under(r:Rm (n+1) A)(c:Addr)(rest:List Value):Rm n (A.under (.builtin "type.__call__" ⟨.ref c::rest,[]⟩)):=by
 rw[jZ];refine⟨r.hd,?_,r.fr,?_,r.gd⟩
 ·have:=r.dp;show A.depth+1+3*n+103<recursionLimit;omega
 ·have:=r.un;show A.units+1+60*n+60<cLine;omega
theorem EX.around{A':Around}{st:Option (Option Addr)}{e:Value}(hA:A'.frames=A.frames)(x:EX G F M A' ρ H s H' st e s'):EX G F M A ρ H s H' st e s':=by
 obtain⟨a,b,c,⟨l,e,k⟩⟩:=x;exact⟨a,b,c,⟨l,hA▸e,k⟩⟩
theorem KQ{v:V}(h:∀j,v≠.obj j):v.isObj=false:=by
 cases v with
 |obj j=>exact absurd rfl (h j)
 |_=>rfl
theorem t8{X:Av}{fs:List (Nat × V)}:∀{es:List DictEntry},iY 0 fs=true->TRelA G ρ X h fs es->RelA G X h fs es:=by
 induction fs with
 |nil=>exact λ_ r=>r
 |cons p fs ih=>
  intro es hf r;refine gr r λe q a b c=>?_;have hf:=LD.mp hf;exact⟨e,q,rfl,a,dZ (KQ λj e=>Mw _ (se hf.1 j e)) b,ih hf.2 c⟩
end
end J.Internal
namespace J.Internal
noncomputable section
def gR(G:Cx)(F:Av)(A:Around)(ρ:List (Addr × Addr))(H:Hp)(Z:Option (Option Addr)->Prop)(sc:Scope)(nm:List Str)(env:Env)(σ:ai)(n:Nat)(C:Nat->List V->Hp->Out V)(c:Nat)(vs:List V)(us:List Value):Prop:=
 ∀{s:Shared}{P:jc}(bg:Bg G)(na:Na G P)(hc:gu G n C)(rm:Rm (n+1) A)(h3:c<3)(I:Inv G F A sc nm env ρ H σ s)(rt:RTs G F ρ H s.heap vs us),Wps G F al A ρ H s (call (.ref (G.ca c)) us) (RV G F) Z (eS P C c vs H)
namespace Kop_new
def zz:=ep (uY gR)
def G:=zz.1
def F:=zz.2.1
def A:=zz.2.2.1
def ρ:=zz.2.2.2.1
def H:=zz.2.2.2.2.1
def Z:=zz.2.2.2.2.2.1
def c:=zz.2.2.2.2.2.2.2.2.2.2.2.2.1
def vs:=zz.2.2.2.2.2.2.2.2.2.2.2.2.2.1
def us:=zz.2.2.2.2.2.2.2.2.2.2.2.2.2.2
theorem TT:gR G F A ρ H Z zz.2.2.2.2.2.2.1 zz.2.2.2.2.2.2.2.1 zz.2.2.2.2.2.2.2.2.1 zz.2.2.2.2.2.2.2.2.2.1 zz.2.2.2.2.2.2.2.2.2.2.1 zz.2.2.2.2.2.2.2.2.2.2.2.1 c vs us:=by
 intro s P bg na hc rm h3 I rt;obtain⟨i1,i2,i3,i4,i5⟩:=na.ini c h3;have X:=bg.inH I.sr;have hb1:∀b o,s.heap.get? b=some o->((s.heap.push emptyDict).push (instObj (G.ca c) s.heap.objs.size)).get? b=some o:=λb o e=>Heap.get?_push_of_some _ (Heap.get?_push_of_some _ e);have gx:((s.heap.push emptyDict).push (instObj (G.ca c) s.heap.objs.size)).get? (s.heap.objs.size+1)=some (instObj (G.ca c) s.heap.objs.size):=by heap_get
 have gd:((s.heap.push emptyDict).push (instObj (G.ca c) s.heap.objs.size)).get? s.heap.objs.size=some emptyDict:=by heap_get
 have hno:∀a,s.heap.objs.size<=a->s.heap.get? a=none:=λa ha=>by
  cases z:s.heap.get? a with
  |none=>rfl
  |some o=>exact absurd (Heap.lt_size z) (Nat.not_lt.mpr ha)
 generalize hs1:({s with heap:=(s.heap.push emptyDict).push (instObj (G.ca c) s.heap.objs.size)}:Shared)=s1;have e1:s1.heap=(s.heap.push emptyDict).push (instObj (G.ca c) s.heap.objs.size):=by subst hs1;rfl
 have af:Aft G F al ρ H s (ρ++[(s.heap.objs.size+1,s.heap.objs.size)]) (H++[.ins c []]) s1:=by
  refine Aft.own I.sr ⟨_,s.toks,hs1.symm⟩ (by rw[e1];exact hb1) (λa m=>?_) ?_
  ·replace m:=(LI.mp m).imp id LJ.mp
   rcases m with rfl|rfl
   ·exact⟨hno _ (by omega),λf=>by obtain⟨o,e⟩:=I.ft _ f;rw[hno _ (by omega)]at e;cases e⟩
   ·exact⟨hno _ (by omega),λf=>by obtain⟨o,e⟩:=I.ft _ f;rw[hno _ (by omega)]at e;cases e⟩
  ·exact⟨⟨rfl,by simp⟩,by rw[e1];exact gx,[],0,by rw[e1];exact gd,rfl⟩
 have I1:=I.aft af
 have rt1:RTs G F (ρ++[(s.heap.objs.size+1,s.heap.objs.size)]) (H++[.ins c []]) s1.heap (.obj H.length::vs) (.ref (s.heap.objs.size+1)::us):=
  ⟨_,_,rfl,⟨(s.heap.objs.size+1,s.heap.objs.size),by rw[<-I.sr.len];exact LO,rfl⟩,rt.aft af (λ_ m=>m.elim)⟩
 have fr:A.frames=(A.under (.builtin "type.__call__" ⟨.ref (G.ca c)::us,[]⟩)).frames:=by rw[jZ]
 have st1:Stk F (A.under (.builtin "type.__call__" ⟨.ref (G.ca c)::us,[]⟩)) s1.heap:=by
  obtain⟨l,e,k⟩:=I1.st;exact⟨l,by rw[<-fr];exact e,k⟩
 have hC:=hc (f:=P.ini c) i1 (rm.under (G.ca c) us) I1.sr I1.ft st1 rt1;have go:∀(Q:Value->Shared->Prop),az (Md G) (A.under (.builtin "type.__call__" ⟨.ref (G.ca c)::us,[]⟩)) (.call (.ref (G.fd (P.ini c)).addr) ⟨.ref (s.heap.objs.size+1)::us,[]⟩) (λr s'=>r = .ok (.ret .none)/\Q (.ref (s.heap.objs.size+1)) s') s1->
   wpS (Md G) A (call (.ref (G.ca c)) us) Q (λ_ _=>False) s:=by
  intro Q hq;refine ds ?_;subst hs1;obtain⟨hh,g,d,t,os⟩:=s;refine Eb (makes_of X i4) (looks_findIn X i2) (λself=>bind_fn X self i3) (by rfl) (bX hq λr s' q=>?_);obtain⟨rfl,q⟩:=q;exact⟨rfl,q⟩
 delta eS
 cases hx:zz.2.2.2.2.2.2.2.2.2.2.2.1 (P.ini c) (.obj H.length::vs) (H++[.ins c []])with
 |bad=>trivial
 |exc H1=>trivial
 |ok b H1=>
  rw[hx]at hC;refine kN (P:=λb o=>EF G F (A.under (.builtin "type.__call__" ⟨.ref (G.ca c)::us,[]⟩)) (ρ++[(s.heap.objs.size+1,s.heap.objs.size)]) (H++[O.ins c []]) s1 (.call (.ref (G.fd (P.ini c)).addr) ⟨.ref (s.heap.objs.size+1)::us,[]⟩) (Out.ok b H1)->Wps G F al A ρ H s (call (.ref (G.ca c)) us) (RV G F) Z o) (λ_=>trivial) (λhC=>?_) hC;refine mB trivial λo hg=>D8 (P:=λo y=>ak H1 H.length=some o->Wps G F al A ρ H s (call (.ref (G.ca c)) us) (RV G F) Z y) (λ_=>trivial) (λc' fs hg=>?_) hg;have pq:∀{ρ'},(ρ++[(s.heap.objs.size+1,s.heap.objs.size)])<+:ρ'->ρ'[H.length]? = some (s.heap.objs.size+1,s.heap.objs.size):=λe=>rV e (by rw[<-I.sr.len];exact LO)
  cases hfix:P.fix c with
  |false=>exact go _ (bX hC λr s' q=>q.elim λa q=>q.1▸q.2.elim λρ' q=>jm q.2▸⟨rfl,ρ',af.trans q.1,(s.heap.objs.size+1,s.heap.objs.size),pq q.1.pre,rfl⟩)
  |true=>
   refine Wps.guard λhz=>go _ (bX hC λr s' q=>?_);have hz:=(LD.mp hz);obtain⟨a,rfl,ρ',af2,hr⟩:=q;rw[jm hr];have at2:=af.trans af2;have pq:=pq af2.pre;have sub:∀a,F.or (aj (ρ'.take H.length) (H1.take H.length)) a->F.or (aj ρ' H1) a:=cb (λ_ f=>f) λ_ w=>db w
   have af3:Aft G F al ρ H s (ρ'.take H.length) (H1.take H.length) s':=
    ⟨at2.same,by rw[<-I.sr.len,jY at2.pre];exact LP _,at2.sr.take hz.2,⟨at2.ext.keep,at2.ext.there,λx w=>at2.ext.grow x (sub x w)⟩,at2.frm⟩
   obtain⟨⟨z1,z2⟩,g1,es,m,g2,l⟩:=at2.sr.rel _ _ _ pq hg
   have nx:∀a,a∈aI (.ins c' fs) (s.heap.objs.size+1,s.heap.objs.size)->¬F.or (aj (ρ'.take H.length) (H1.take H.length)) a:=λa m w=>w.elim (λf=>at2.sr.disj a ⟨_,_,_,pq,hg,m⟩ f) λ⟨i,q,o,e,gg,mm⟩=>
    Mg i ((at2.sr.apart i H.length q _ o _ a (bx e).1 (by rw[ay]at gg ⊢;exact(bx gg).1) pq hg mm m).symm▸(bx e).2:i<i)
   exact⟨rfl,_,af3,z1,_,_,es,m,rfl,nx _ (.head _),nx _ (.tail _ (.head _)),g1,g2,RelA.ext G (jp sub) (λ_ m=>m.elim) (t8 hz.1 l)⟩
end Kop_new
end
theorem Cq{G F A ρ H Z sc nm env σ n C c vs us}:gR G F A ρ H Z sc nm env σ n C c vs us:=cN (p:=uY gR) Kop_new.TT (G,F,A,ρ,H,Z,sc,nm,env,σ,n,C,c,vs,us)
variable{G:Cx}
variable{F M:Av}{A:Around}{ρ:List (Addr × Addr)}{H:Hp}{s:Shared}{h h':Heap}
noncomputable def bP(T:String):Bool:=["enumerate", "zip", "dict_itemiterator", "dict_reverseitemiterator", "odict_iterator", "itertools.zip_longest", "itertools.pairwise"].contains T
def Gg(G:Cx)(F:Av)(A:Around)(ρ:List (Addr × Addr))(H:Hp)(xs:List V)(I:Addr)(h:Heap):Prop:=
 ∃fp P St,Walks G.p G.w A I fp [I] xs.length P St/\St 0 h/\I∈fp/\(∀b∈fp,b=I\/(¬ (F.or (aj ρ H)) b/\∃o,h.get? b=some o))/\
  (∀i h,St i h->∃o vs T,h.get? I=some o/\o.cls = .type T/\o.data = .fields vs/\bP T=false)/\(∀i v,i<xs.length->P i v->∃x,xs[i]? = some x/\Rel G ((F.or λa=>a=I).or (aj ρ H)) h x v)
theorem j0:∀(n:Nat)(lo st:Int),(jb lo st n).length=n:=by
 intro n
 induction n with
 |zero=>
  intro _ _;exact rfl
 |succ n ih=>
  intro lo st;simp[BU,BV,ih]
theorem vU(n:Nat):∀(i:Nat)(lo st:Int),i<n->(jb lo st n)[i]? = some (.int (lo+i*st)):=by
 induction n with
 |zero=>exact λi _ _ h=>absurd h (Mw i)
 |succ n ih=>
  intro i lo st h
  cases i with
  |zero=>exact congrArg (λi=>some (V.int i)) (by rw[Int.natCast_zero,Int.zero_mul,Int.add_zero])
  |succ i=>exact(ih i _ _ (Mn h)).trans (congrArg (λi=>some (V.int i)) (by rw[Int.natCast_succ,Int.add_mul,Int.one_mul,Int.add_assoc,Int.add_comm st]))
theorem oJ{lo hi st:Int}(h0:st≠0):Builtin.Range.rangeSize lo hi st=(cy lo hi st:Int):=by
 unfold Builtin.Range.rangeSize cy
 have key:∀{a b c:Int},0<=c->(if a<b then(b - a - 1) / c+1 else 0:Int)=((if a<b then((b - a - 1) / c+1).toNat else 0:Nat):Int):=λ{a b c} hc=>by
  by_cases w:a<b
  ·rw[if_pos w,if_pos w];exact(Int.toNat_of_nonneg (Int.add_nonneg (Int.ediv_nonneg (Int.le_sub_one_of_lt (Int.sub_pos_of_lt w)) hc) (by decide))).symm
  ·rw[if_neg w,if_neg w];rfl
 by_cases h:0<st
 ·rw[if_pos (show st > 0 from h),if_pos h];exact key (Int.le_of_lt h)
 ·rw[if_neg (show ¬st > 0 from h),if_neg h];exact key (Int.neg_nonneg_of_nonpos (Int.not_lt.mp h))
theorem yZ{o:Obj}{y:V}{v:Value}(r:Rel G (F.or (aj ρ H)) h y v):Rel G ((F.or λa=>a=h.objs.size).or (aj ρ H)) (h.push o) y v:=
 Rel.ext G (M:=al) ⟨λ_ _ e _=>aA _ _ e,λb o e=>⟨o,aA b o e⟩,λa w=>w.elim (λw=>w.elim (λf=>.inl (.inl f)) λw=>.inr ((congrArg h.get? (show a=h.objs.size from w)).trans jn)) λw=>.inl (.inr w)⟩ (λ_ m=>m.elim) r
theorem iK{I:Addr}{T:String}{D:Array Value}(hT:bP T=false)(e:∃o,h.get? I=some o/\o.cls = .type T/\o.data = .fields D):∃o vs T,h.get? I=some o/\o.cls = .type T/\o.data = .fields vs/\bP T=false:=
 e.elim λo w=>⟨o,_,_,w.1,w.2.1,w.2.2,hT⟩
theorem vV{xs:List V}{n:Nat}{P:Nat->Value->Prop}{a:Addr}{o ob:Obj}{St:Nat->Heap->Prop}(hn:n=xs.length)(g:h.get? a=some o)(nx:¬ (F.or (aj ρ H)) a)(W:Walks G.p G.w A h.objs.size [h.objs.size,a] [h.objs.size] n P St)(s0:St 0 (h.push ob))
  (hc:∀i h',St i h'->∃o vs T,h'.get? h.objs.size=some o/\o.cls = .type T/\o.data = .fields vs/\bP T=false) (hv:∀i v,i<xs.length->P i v->∃x,xs[i]? = some x/\Rel G ((F.or λa=>a=h.objs.size).or (aj ρ H)) (h.push ob) x v):Gg G F A ρ H xs h.objs.size (h.push ob):=
 ⟨_,_,_,hn▸W,s0,.head _,λb m=>(LI.mp m).elim .inl λm=>.inr (LJ.mp m▸⟨nx,o,aA _ _ g⟩),hc,hv⟩
theorem sh{xs:List V}{n:Nat}{P:Nat->Value->Prop}{ob:Obj}{St:Nat->Heap->Prop}(hn:n=xs.length)(W:Walks G.p G.w A h.objs.size [h.objs.size] [h.objs.size] n P St)(s0:St 0 (h.push ob))
  (hc:∀i h',St i h'->∃o vs T,h'.get? h.objs.size=some o/\o.cls = .type T/\o.data = .fields vs/\bP T=false) (hv:∀i v,i<xs.length->P i v->∃x,xs[i]? = some x/\Rel G ((F.or λa=>a=h.objs.size).or (aj ρ H)) (h.push ob) x v):Gg G F A ρ H xs h.objs.size (h.push ob):=
 ⟨_,_,_,hn▸W,s0,.head _,λb m=>.inl (LJ.mp m),hc,hv⟩
theorem vW{xs:List V}{vs:List Value}{ob:Obj}(l:RelL G (F.or (aj ρ H)) h xs vs):∀i v,i<xs.length->vs.toArray[i]? = some v->∃x,xs[i]? = some x/\Rel G ((F.or λa=>a=h.objs.size).or (aj ρ H)) (h.push ob) x v:=λi v hi hv=>
 (RelL.get l (LH hi)).elim λu w=>⟨_,LH hi,yZ (LM (w.1.symm.trans ((List.getElem?_toArray).symm.trans hv))▸w.2)⟩
theorem ml{α β:Type}{l:List α}{f:α->β}:l.length=(l.map f).length:=(LF f).symm
theorem qu{α:Type}{l:List α}{f:α->V}{i:Nat}{c:α}(e:l[i]? = some c):(l.map f)[i]? = some (f c):=by rw[Ml,e];rfl
theorem vX{l:List Nat}{ob:Obj}(i:Nat)(v:Value)(k:SignAt ⟨l.toArray⟩ i v):∃x,(l.map λc=>V.str [c])[i]? = some x/\Rel G ((F.or λa=>a=h.objs.size).or (aj ρ H)) (h.push ob) x v:=
 (show ∃c t,_/\_ from k).elim λc k=>k.elim λt k=>k.2▸⟨.str [c],qu ((List.getElem?_toArray).symm.trans k.1),(by decide:1<=aq),t,rfl⟩
theorem y0{X:Av}{kvs:List (List Nat × V)}:∀{es:List DictEntry},RelD G X h kvs es->∀q∈kvs,q.1.length<=aq:=by
 induction kvs with
 |nil=>exact λ_ q m=>(by cases m)
 |cons p r ih=>exact λl q m=>eW l λe es _ kl _ t=>(LI.mp m).elim (λw=>w▸kl) λm=>ih t q m
theorem vY{lo hi st:Int}{n:Nat}(h0:st≠0)(hn:n=cy lo hi st)(z:n<=aq)(s1:small lo=true)(s2:small hi=true)(s3:small st=true):Builtin.Range.small lo hi st=true:=by
 have b1:=cY s1;have b2:=cY s2;have b3:=cY s3;clear s1 s2 s3;have hz:(cy lo hi st:Int)<=1000000:=hn▸LU.mpr z;unfold Builtin.Range.small;rw[oJ h0];have fl:∀{x:Int},-(2 ^ 63)<=x->x<2 ^ 63->Builtin.Range.rangeFitsLong x=true:=λh h'=>LD.mpr ⟨decide_eq_true h,decide_eq_true h'⟩;have f1:∀{x:Int},-(2 ^ 62)<x/\x<2 ^ 62->Builtin.Range.rangeFitsLong x=true:=λh=>fl (Mt (by decide) (Int.le_of_lt h.1)) (Int.lt_trans h.2 (by decide));have f2:∀{x y:Int},-(2 ^ 62)<=x->x<2 ^ 62->-(2 ^ 62)<=y->y<=2 ^ 62->Builtin.Range.rangeFitsLong (x+y)=true:=λh h' k k'=>fl (Mt (by decide) (Int.add_le_add h k)) (Int.lt_of_lt_of_le (Int.add_lt_add_of_lt_of_le h' k') (by decide));rw[f1 b1,f1 b2,f1 b3,fl (Mt (by decide) (LQ _)) (Int.lt_of_le_of_lt hz (by decide))];refine Bool.or_eq_true_iff.mpr (.inr ?_)
 by_cases h:st > 0
 ·rw[if_pos h];exact f2 (Int.le_of_lt b2.1) b2.2 (Int.le_sub_one_of_lt b3.1) (Mt (Int.sub_le_self st (by decide)) (Int.le_of_lt b3.2))
 ·rw[if_neg h];exact f2 (Int.le_of_lt b2.1) b2.2 (Mt (Int.le_of_lt b3.1) (Int.le_add_of_nonneg_right (by decide))) (Int.add_one_le_of_lt b3.2)
theorem mO{b:V}{xs:List V}{x:Value}{Q:Value->Shared->Prop}{E:Value->Shared->Prop}(hh:A.handled=none)(sr:SR G F ρ H s.heap)(hX:∀a,F a->∃o,s.heap.get? a=some o)(r:TRel G ρ (F.or (aj ρ H)) s.heap b x)(he:elems b=some xs)
  (hQ:∀I h',s.heap.get? I=none->(∀b o,s.heap.get? b=some o->h'.get? b=some o)->(∃o,h'.get? I=some o)->Gg G F A ρ H xs I h'->Q (.ref I) {s with heap:=h'}) :
  wpAny (Md G) A (pyIter x) Q E s:=by
 have go:∀ob,ob.isFreed=false->Gg G F A ρ H xs s.heap.objs.size (s.heap.push ob)->Q (.ref s.heap.objs.size) {s with heap:=s.heap.push ob}:=λob hf=>hQ _ _ jn aA ⟨_,Heap.get?_push_size _ hf⟩;clear hQ
 cases b with
 |lst l=>
  obtain⟨z,a,vs,m,rfl,nx,g,l⟩:=(show _/\∃b vs n,_ from r);have hl:=aY g;cases he;exact wpAny_pyIter_list hl (go _ rfl (vV (RelL.length l) g nx (Walks.list hh _ a (L4 (Heap.lt_size g)) vs.toArray) ⟨⟨_,Heap.get?_push_size _ rfl,rfl,rfl⟩,hl.push _⟩ (λi h st=>iK (by decide +kernel) st.1) (vW l)))
 |tup l=>
  obtain⟨z,a,vs,m,rfl,nx,g,l⟩:=(show _/\∃b vs n,_ from r);cases he;exact wpAny_pyIter_tuple (items:=vs.toArray) ⟨_,g,rfl,m,rfl⟩ (go _ rfl (vV (RelL.length l) g nx (Walks.tuple hh _ a (L4 (Heap.lt_size g)) vs.toArray) ⟨⟨_,Heap.get?_push_size _ rfl,rfl,rfl⟩,⟨_,aA _ _ g,rfl,m,rfl⟩⟩ (λi h st=>iK (by decide +kernel) st.1) (vW l)))
 |byt l=>
  obtain⟨z,t,rfl⟩:=iD r;cases he;exact KBw.pyIter_bytes (go _ rfl (sh ml (KBw.walks hh _ l.toArray t) ⟨_,Heap.get?_push_size _ rfl,rfl,rfl⟩ (λi h st=>iK (by decide +kernel) st) λi v _ k=>k.elim λc k=>k.elim λu k=>k.2▸⟨.int c.toNat,qu ((List.getElem?_toArray).symm.trans k.1),u,rfl⟩))
 |str l=>
  obtain⟨z,t,rfl⟩:=eV r;cases he;refine wpAny_pyIter_strU (go _ rfl ?_)
  by_cases ha:(⟨l.toArray⟩ : Str).cps.all (· < 128)
  ·exact sh ml (Walks.strAscii hh _ ⟨l.toArray⟩ t) ⟨_,Heap.get?_push_size _ rfl,by simp only[strIterType,ha];rfl,rfl⟩ (λi h st=>iK (by decide +kernel) st) λi v _=>vX i v
  ·exact sh ml (Walks.strWide hh _ ⟨l.toArray⟩ t) ⟨_,Heap.get?_push_size _ rfl,by simp only[strIterType,ha];rfl,rfl⟩ (λi h st=>iK (by decide +kernel) st) λi v _=>vX i v
 |dct kvs=>
  obtain⟨⟨z,zn⟩,a,es,m,rfl,na,nx,g,l⟩:=(show(_/\_)/\∃b es n,_ from r);cases he;obtain⟨us,p1,p2⟩:=mI l;have p2:=cZ p2;have hat:s.heap.DictAt (strKind G.p G.w) a us m:=⟨_,es.toArray,g,⟨rfl,rfl,rfl⟩,rfl,λe he=>gM l e (List.mem_toArray.mp he),p1,by rw[p2];exact jV zn⟩;have hlen:us.length=kvs.length:=p1.length.symm.trans (RelD.length l);refine wpAny_pyIter_dict na hat (go _ rfl (vV (hlen.trans ml) g nx (Walks.dictKeys hh _ a (L4 (Heap.lt_size g)) us m) ⟨⟨_,Heap.get?_push_size _ rfl,rfl,rfl⟩,hat.elim λo w=>w.elim λes' w=>⟨o,es',aA _ _ w.1,w.2⟩⟩ (λi h st=>iK (by decide +kernel) st.1) λi v hi hv=>?_));obtain⟨k,u,e1,e2⟩:=hv;have hi:i<kvs.length:=LF (α:=List Nat × V) _▸hi;have hk:=congrArg (·[i]?) p2;rw[Ml,Ml,Ml,e1,LH hi]at hk;obtain⟨t,rfl⟩:=du e2;exact⟨.str kvs[i].1,qu (LH hi),y0 l _ (List.getElem_mem hi),t,congrArg (Value.str · t) (LM hk)⟩
 |rng lo st n=>
  obtain⟨z,a,hi,t,u,w,rfl,nx,g,hn,h0,s1,s2,s3⟩:=(show _/\∃b hi t u w,_ from r);cases he;refine wpAny_pyIter_range (show IsRange s.heap a lo hi st t u w from g) (vY h0 hn z s1 s2 s3) (go _ rfl (sh (j0 n lo st).symm (Walks.range hh _ lo st n) ?_ (λi h st=>⟨_,_,_,st,rfl,rfl,by decide +kernel⟩) λi v hi k=>?_))
  ·have e2:Builtin.Range.rangeSize lo hi st=(n:Int) - ((0:Nat):Int):=by rw[oJ h0,<-hn];exact(Int.sub_zero _).symm
   show IsRangeIter _ _ (lo+((0:Nat):Int)*st) _ _;rw[<-e2,show lo+((0:Nat):Int)*st=lo by rw[Int.natCast_zero,Int.zero_mul,Int.add_zero]];exact Heap.get?_push_size _ rfl
  ·exact k.elim λt k=>k▸⟨_,vU n i lo st (j0 n lo st▸hi),t,rfl⟩
 |_=>cases he
theorem oK{target:Expr}{I:Addr}{v:Value}{o:Obj}{vs:Array Value}{T:String}{Q:Unit->Shared->Prop}{E:Value->Shared->Prop}(g:s.heap.get? I=some o)(hc:o.cls = .type T)(hd:o.data = .fields vs)(hT:bP T=false)(q:Q () s) :
  wpAny (Md G) A (letOwnedTupleGo target (.ref I) v) Q E s:=by
 have key:∀e p c,wpAny (Md G) A (letOwnedTupleGo (.Tuple e p c) (.ref I) v) Q E s:=λe p c=>by
  cases v with
  |ref a=>
   refine wpAny_bind (wpAny_load g ?_);rw[hc,hd];refine wpAny_of_eq (if_neg λw=>?_) q;exact L8 (hT.symm.trans (LD.mp w).1)
  |_=>exact wpAny_pure q
 cases target with
 |Tuple e p c=>exact key e p c
 |List e p=>exact key e 0 p
 |_=>exact wpAny_pure q
end J.Internal
namespace J.Internal
variable{G:Cx}
variable{F F' M L:Av}{A:Around}{ρ ρ' ρ'':List (Addr × Addr)}{H H' H'':Hp}{s s' s'' s1:Shared}{h h':Heap}
section
variable{sc:Scope}{nm:List Str}{env:Env}{σ σ' σ'':ai}{x:Str}
theorem Aft.at{c:Addr}{o':Obj}(sr:SR G F ρ H s.heap)(sm:Same s s')(hc:F c)(hs:∀b o,b≠c->s.heap.get? b=some o->s'.heap.get? b=some o)(hn:s'.heap.get? c=some o'):Aft G F (λa=>a=c) ρ H s ρ H s':=by
 have th:∀b o,s.heap.get? b=some o->∃o',s'.heap.get? b=some o':=λb o e=>by
  by_cases w:b=c
  ·subst w;exact⟨_,hn⟩
  ·exact⟨o,hs b o w e⟩
 exact⟨sm,LP _,sr.touch (λ_ f=>.inl f) (λb o e n=>hs b o (λw=>n (w▸hc)) e) th,⟨λb o e n=>hs b o (λw=>n (.inr (w▸hc))) e,th,λ_ w=>.inl w⟩,λb o f e n=>.of (hs b o n e)⟩
theorem Aft.shed(a:Aft G (F.or L) (λx=>M x\/L x) ρ H s1 ρ' H' s')(sm:Same s s1)(k:∀b o,s.heap.get? b=some o->s1.heap.get? b=some o)(hL:∀x,L x->s.heap.get? x=none):Aft G F M ρ H s ρ' H' s':=by
 have th:∀b,s1.heap.get? b=none->s.heap.get? b=none:=λb q=>by
  cases z:s.heap.get? b with
  |none=>rfl
  |some o=>rw[k b o z]at q;cases q
 refine⟨sm.trans a.same,a.pre,a.sr.drop λ_ f=>.inl f,⟨λb o e n=>a.ext.keep b o (k b o e) λm=>?_,λb o e=>a.ext.there b o (k b o e),λx w=>?_⟩,λb o f e n=>a.frm b o (.inl f) (k b o e) λm=>m.elim n λl=>by rw[hL b l]at e;cases e⟩
 ·rcases m with w|f|l
  ·exact n (.inl w)
  ·exact n (.inr f)
  ·rw[hL b l]at e;cases e
 ·rcases w with f|w
  ·exact .inl (.inl f)
  ·rcases a.ext.grow x (.inr w)with q|q
   ·rcases q with q|q
    ·rcases q with q|q
     ·exact .inl (.inl q)
     ·exact .inr (hL x q)
    ·exact .inl (.inr q)
   ·exact .inr (th x q)
theorem EX.shed{st:Option (Option Addr)}{e:Value}(a:EX G (F.or L) (λx=>M x\/L x) A ρ H s1 H' st e s')(sm:Same s s1)(k:∀b o,s.heap.get? b=some o->s1.heap.get? b=some o)(hL:∀x,L x->s.heap.get? x=none)(hst:Stk F A s'.heap):EX G F M A ρ H s H' st e s':=by
 obtain⟨⟨ea,ρ',Xs,he,hx,hn,hp,hs,hE⟩,hsm,hfr,_⟩:=a
 have th:∀b,s1.heap.get? b=none->s.heap.get? b=none:=λb q=>by
  cases z:s.heap.get? b with
  |none=>rfl
  |some o=>rw[k b o z]at q;cases q
 refine⟨⟨ea,ρ',Xs,he,hx,λa w=>th a (hn a w),hp,hs.drop (F:=F.or Xs) (cb (λ_ f=>.inl f) λ_ w=>w),⟨λb o e n=>hE.keep b o (k b o e) λm=>?_,λb o e=>hE.there b o (k b o e),λx w=>?_⟩⟩,sm.trans hsm,λb o f e n=>hfr b o (.inl f) (k b o e) λm=>m.elim n λl=>by(rw[hL b l]at e;cases e),hst⟩
 ·rcases m with w|f|l
  ·exact n (.inl w)
  ·exact n (.inr f)
  ·rw[hL b l]at e;cases e
 ·rcases w with f|w
  ·exact .inl (.inl f)
  ·rcases hE.grow x (.inr w)with q|q
   ·rcases q with q|q
    ·rcases q with q|q
     ·exact .inl (.inl q)
     ·exact .inr (hL x q)
    ·exact .inl (.inr q)
   ·exact .inr (th x q)
theorem Stk.shed(x:Stk (F.or L) A h)(y:Stk F A h'):Stk F A h:=by
 obtain⟨l,e,q⟩:=y;obtain⟨l',e',q'⟩:=x;rw[e]at e';cases e';refine⟨l,e,λen hen=>?_⟩;obtain⟨k1,L1,o,es,ep,e1,f,g,d⟩:=q en hen;obtain⟨k1',L2,o2,es2,ep2,e2,f2,g2,d2⟩:=q' en hen;rw[e1]at e2;cases e2;exact⟨k1,L1,o2,es2,ep2,e1,f,g2,d2⟩
theorem Stk.wid(x:Stk F A h):Stk (F.or L) A h:=by
 obtain⟨l,e,q⟩:=x;refine⟨l,e,λen hen=>?_⟩;obtain⟨k1,L1,o,es,ep,e1,f,g,d⟩:=q en hen;exact⟨k1,L1,o,es,ep,e1,.inl f,g,d⟩
theorem EnvR.re{F F':Av}{h h':Heap}(x:EnvR G F ρ H sc nm env σ h)(hF:∀a,Me env a->F' a)(hO:∀a o,Me env a->h.get? a=some o->UpS h' a o)(hr:∀v u,TRel G ρ (F.or (aj ρ H)) h v u->TRel G ρ' (F'.or (aj ρ' H')) h' v u):EnvR G F' ρ' H' sc nm env σ h' where
 kind:=x.kind
 glob:=x.glob
 bui:=x.bui
 names:=x.names
 locF:=hF _ (.inl rfl)
 celF:=λy c e=>hF _ (.inr ⟨y,c,e,rfl⟩)
 loc:=by
  obtain⟨m,⟨o,es,ep,g,r⟩,k⟩:=x.loc;obtain⟨sl,g',_⟩:=hO _ o (.inl rfl) g;refine⟨m,⟨_,es,ep,g',r⟩,λi V y e1 e2 e3=>?_⟩;obtain⟨v,e4,t⟩:=k i V y e1 e2 e3;exact⟨v,e4,hr _ _ t⟩
 cel:=λi V y e1 e2 e3=>by
  obtain⟨c,v,e4,⟨o,g,d⟩,t⟩:=x.cel i V y e1 e2 e3;obtain⟨sl,g',_⟩:=hO _ o (.inr ⟨y,c,e4,rfl⟩) g;exact⟨c,v,e4,⟨_,g',d⟩,hr _ _ t⟩
 cel0:=λy e=>by
  obtain⟨c,v,e4,⟨o,g,d⟩⟩:=x.cel0 y e;obtain⟨sl,g',_⟩:=hO _ o (.inr ⟨y,c,e4,rfl⟩) g;exact⟨c,v,e4,_,g',d⟩
 apart:=x.apart
 cL:=x.cL
theorem Inv.wid(I:Inv G F A sc nm env ρ H σ s)(sm:Same s s1)(k:∀b o,s.heap.get? b=some o->s1.heap.get? b=some o)(hL:∀x,L x->s.heap.get? x=none/\∃o,s1.heap.get? x=some o):Inv G (F.or L) A sc nm env ρ H σ s1:=by
 have E:Ext al (F.or (aj ρ H)) ((F.or L).or (aj ρ H)) s.heap s1.heap:=⟨λb o e _=>k b o e,λb o e=>⟨o,k b o e⟩,λa w=>by
  rcases w with (w|w)|w
  ·exact .inl (.inl w)
  ·exact .inr (hL a w).1
  ·exact .inl (.inr w)⟩
 refine⟨I.sr.touch (λa w=>w.imp_right λl=>(hL a l).1) (λb o e _=>k b o e) λb o e=>⟨o,k b o e⟩,I.ev.re (λa m=>.inl (I.ev.meF a m)) (λa o _ g=>.of (k a o g)) λv u r=>r.ext E (λ_ m=>m.elim) (LP _),?_,λa w=>w.elim (λf=>let ⟨o,e⟩:=I.ft a f;⟨o,k a o e⟩) λl=>(hL a l).2⟩
 have:Stk F A s1.heap:=by
  obtain⟨l,e,q⟩:=I.st;refine⟨l,e,λen hen=>?_⟩;obtain⟨k1,L1,o,es,ep,e1,f,g,d⟩:=q en hen;exact⟨k1,L1,o,es,ep,e1,f,k _ _ g,d⟩
 exact this.wid
def t9(sc:Scope)(nm:List Str)(i:Nat)(x:Str):Prop:=nm[i]? = some x/\(sc.names.lookup x=some .local\/sc.names.lookup x=some .cell)
noncomputable def vZ(sc:Scope)(nm:List Str)(t:Tg)(e:Expr):Prop:=match t with
 |.one i=>∃x p,e = .Name x p/\t9 sc nm i x
 |.two i j=>∃x p y q k r,e = .Tuple [.Name x p,.Name y q] k r/\t9 sc nm i x/\t9 sc nm j y
theorem Lft.of_aft(I:Inv G F A sc nm env ρ H σ s)(a:Aft G F al ρ H s ρ' H' s'):Lft G F A sc nm env ρ H σ s ρ' H' σ s':=
 ⟨a.weak λ_ m=>m.elim,I.ev.aft a I.sr,I.st.aft a I.sr λ_ _ m=>m⟩
theorem Lft.trans(x:Lft G F A sc nm env ρ H σ s ρ' H' σ' s')(y:Lft G F A sc nm env ρ' H' σ' s' ρ'' H'' σ'' s''):Lft G F A sc nm env ρ H σ s ρ'' H'' σ'' s'':=
 ⟨x.aft.trans y.aft,y.ev,y.st⟩
theorem qv{V0:V}{v:Value}{i:Nat}{p:Pos}{Q:Unit->Shared->Prop}{E:Value->Shared->Prop}(I:Inv G F A sc nm env ρ H σ s)(h:t9 sc nm i x)(hn:nm.Nodup)(r:TRel G ρ (F.or (aj ρ H)) s.heap V0 v)(k:∀s',Lft G F A sc nm env ρ H σ s ρ H (ao σ i V0) s'->Q () s') :
  wpAny (Md G) A (assign (.Name x p) env v) Q E s:=by
 rw[arm_assign_Name];exact wpAny_bind (wpAny_standAt (wpAny_bindName (wpAny_mono (gQ I h.1 h.2 hn r) (λ_ s1 L=>k s1 L) λ_ _ w=>w)))
theorem lR{t:Tg}{target:Expr}{V0:V}{v:Value}{E:Value->Shared->Prop}(hh:A.handled=none)(I:Inv G F A sc nm env ρ H σ s)(hT:vZ sc nm t target)(hn:nm.Nodup)(r:TRel G ρ (F.or (aj ρ H)) s.heap V0 v)(hb:bN t V0 σ=some σ') :
  wpAny (Md G) A (assign target env v) (λ_ s'=>Lft G F A sc nm env ρ H σ s ρ H σ' s') E s:=by
 cases t with
 |one i=>
  obtain⟨x,p,rfl,h⟩:=hT;cases hb;exact qv I h hn r λ_ L=>L
 |two i j=>
  obtain⟨x,p,y,q,k,r',rfl,h1,h2⟩:=hT;refine wT (d:=none) (f:=λxs=>pS xs (λa b=>some (ao (ao σ i a) j b)) none) (P:=λv o=>o=some σ'->wpAny (Md G) A (assign (.Tuple [.Name x p,.Name y q] k r') env v) (λ_ s'=>Lft G F A sc nm env ρ H σ s ρ H σ' s') E s) r (λw=>(by cases w)) (λxs ta vs m _ _ g l=>?_) hb;refine e2 (d:=none) (P:=λxs o=>RelL G (F.or (aj ρ H)) s.heap xs vs->o=some σ'->_) (λ_ w=>(by cases w)) (λa b l hb=>?_) l;cases hb;obtain⟨u,_,rfl,ra,w,_,rfl,rb,rfl⟩:=(show ∃u us,vs=u::us/\_/\∃w ws,us=w::ws/\_/\ws=[]from l);refine wpAny_assign_Tuple hh (items:=[u,w].toArray) ⟨_,g,rfl,m,rfl⟩ rfl rfl λh' hx=>?_;have a0:Aft G F al ρ H s ρ H {s with heap:=h'}:=.keeps I.sr ⟨h',s.toks,rfl⟩ λb o e=>hx b o (L4 (Heap.lt_size e)) e
  have I0:=I.aft a0;exact assignInOrder_cons (qv I0 h1 hn (aF (a0.rel (λ_ m=>m.elim) ra)) λs2 L1=>assignInOrder_cons (qv (Lft.inv I0 L1) h2 hn (aF (L1.aft.rel (λ_ m=>I0.ev.meF _ m) (a0.rel (λ_ m=>m.elim) rb))) λs3 L2=>wpAny_pure ((Lft.of_aft I a0).trans (L1.trans L2))))
end
end J.Internal
namespace J.Internal
variable{G:Cx}
variable{F M L:Av}{A:Around}{ρ ρ':List (Addr × Addr)}{H H':Hp}{s s' s'' s1 s0:Shared}{h h':Heap}
theorem SR.shed(x:SR G (F.or L) ρ H h)(k:∀b o,¬L b->h.get? b=some o->h'.get? b=some o):SR G F ρ H h' where
 len:=x.len
 rel:=λi q o e g=>(x.rel i q o e g).ext0 (M:=L) (X:=(F.or L).or (aj ρ H)) (X':=F.or (aj ρ H)) ⟨λb o e n=>k b o n e,λa w=>.inl (cb (λ_ f=>.inl f) (λ_ w=>w) a w)⟩ (λ_ l=>.inl (.inr l)) (LP _) λa m l=>x.disj a ⟨i,q,o,e,g,m⟩ (.inr l)
 apart:=x.apart
 disj:=λa w f=>x.disj a w (.inl f)
 base:=λb o e=>k b o (λl=>by have:=x.above b (.inl (.inr l));rw[e]at this;cases this) (x.base b o e)
 above:=λa w=>x.above a (w.imp_left .inl)
theorem Aft.shed2(a:Aft G (F.or L) (λx=>M x\/L x) ρ H s1 ρ' H' s')(sm:Same s s1)(k:∀b o,s.heap.get? b=some o->s1.heap.get? b=some o)(hL:∀x,L x->s.heap.get? x=none)
  (sm':Same s' s'') (k':∀b o,¬L b->s'.heap.get? b=some o->s''.heap.get? b=some o):Aft G F M ρ H s ρ' H' s'':=by
 have b:=a.shed sm k hL;have nL:∀b o,s.heap.get? b=some o->¬L b:=λb o e l=>by rw[hL b l]at e;cases e
 refine⟨b.same.trans sm',b.pre,a.sr.shed k',⟨λc o e n=>k' c o (nL c o e) (b.ext.keep c o e n),λc o e=>?_,b.ext.grow⟩,λc o f e n=>?_⟩
 ·obtain⟨o',e'⟩:=b.ext.there c o e;exact⟨o',k' c o' (nL c o e) e'⟩
 ·obtain⟨sl,g,q⟩:=b.frm c o f e n;exact⟨sl,k' c _ (nL c o e) g,q⟩
theorem Stk.shed2(x:Stk (F.or L) A h)(y:Stk F A h'')(k:∀b o,¬L b->h.get? b=some o->h'.get? b=some o)(hL:∀b,F b->¬L b):Stk F A h':=by
 obtain⟨l,e,q⟩:=x.shed y;refine⟨l,e,λen hen=>?_⟩;obtain⟨k1,L,o,es,ep,e1,f,g,d⟩:=q en hen;exact⟨k1,L,o,es,ep,e1,f,k _ _ (hL _ f) g,d⟩
section
variable{sc:Scope}{nm:List Str}{env:Env}{σ:ai}{x:Str}{n:Nat}{I:Addr}
theorem EnvR.shed{h h':Heap}(x:EnvR G (F.or L) ρ H sc nm env σ h)(k:∀b o,¬L b->h.get? b=some o->h'.get? b=some o)(hm:∀a,Me env a->F a/\¬L a):EnvR G F ρ H sc nm env σ h':=by
 refine{x with locF:=(hm _ (.inl rfl)).1,celF:=λy c e=>(hm _ (.inr ⟨y,c,e,rfl⟩)).1,loc:=?_,cel:=?_,cel0:=?_}
 ·obtain⟨m,⟨o,es,ep,g,r⟩,q⟩:=x.loc;refine⟨m,⟨o,es,ep,k _ _ (hm _ (.inl rfl)).2 g,r⟩,λi V y e1 e2 e3=>?_⟩;obtain⟨v,e4,t⟩:=q i V y e1 e2 e3;exact⟨v,e4,t.ext0 (M:=L) ⟨λb o e n=>k b o n e,λa w=>.inl (cb (λ_ f=>.inl f) (λ_ w=>w) a w)⟩ (λ_ l=>.inl (.inr l)) (LP _)⟩
 ·intro i V y e1 e2 e3;obtain⟨c,v,e4,⟨o,g,d⟩,t⟩:=x.cel i V y e1 e2 e3;exact⟨c,v,e4,⟨o,k _ _ (hm _ (.inr ⟨y,c,e4,rfl⟩)).2 g,d⟩,t.ext0 (M:=L) ⟨λb o e n=>k b o n e,λa w=>.inl (cb (λ_ f=>.inl f) (λ_ w=>w) a w)⟩ (λ_ l=>.inl (.inr l)) (LP _)⟩
 ·intro y e;obtain⟨c,v,e4,o,g,d⟩:=x.cel0 y e;exact⟨c,v,e4,o,k _ _ (hm _ (.inr ⟨y,c,e4,rfl⟩)).2 g,d⟩
theorem RFl.shed{r:Fl}{fl:Flow}(k:∀b o,¬L b->h.get? b=some o->h'.get? b=some o)(q:RFl G (F.or L) ρ H h r fl):RFl G F ρ H h' r fl:=by
 cases r<;>cases fl<;>first|exact q|exact q.elim|exact trivial|skip
 exact TRel.ext0 (M:=L) ⟨λb o e n=>k b o n e,λa w=>.inl (cb (λ_ f=>.inl f) (λ_ w=>w) a w)⟩ (λ_ l=>.inl (.inr l)) (LP _) q
noncomputable def LR(G:Cx)(F:Av)(A:Around)(sc:Scope)(nm:List Str)(env:Env)(ρ:List (Addr × Addr))(H:Hp)(s0:Shared):Out (Fl × ai)->Result->Shared->Prop
 |.ok r H',r',s'=>∃fl,r' = .ok fl/\∃ρ',Aft G F (Me env) ρ H s0 ρ' H' s'/\RFl G F ρ' H' s'.heap r.1 fl/\EnvR G F ρ' H' sc nm env r.2 s'.heap/\Stk F A s'.heap
 |.exc H',r',s'=>∃e,r' = .error e/\EX G F (Me env) A ρ H s0 H' (some env.frame) e s'
 |.bad,_,_=>False
def LoopR(G:Cx)(F:Av)(A:Around)(sc:Scope)(nm:List Str)(env:Env)(ρ:List (Addr × Addr))(H:Hp)(s0:Shared)(c:Code)(s:Shared)(x:Out (Fl × ai)):Prop:=
 x≠.bad->az (Md G) A c (LR G F A sc nm env ρ H s0 x) s
theorem LoopR.run{c:Code}{L0:Addr}{x:Out (Fl × ai)}(hL:env.frame=some L0)(hft:∀a,F a->∃o,s0.heap.get? a=some o)(hk:rW c=true)(hc:LoopR G F A sc nm env ρ H s0 c s x) :
  match x with
  |.ok r H'=>wpS (Md G) A (runOwn c env) (λfl s'=>∃ρ',Aft G F (Me env) ρ H s0 ρ' H' s'/\RFl G F ρ' H' s'.heap r.1 fl/\EnvR G F ρ' H' sc nm env r.2 s'.heap/\Stk F A s'.heap) (λ_ _=>False) s
  |.exc H'=>wpS (Md G) A (runOwn c env) (λ_ _=>False) (λe s'=>∃st,Zl env st/\EX G F (Me env) A ρ H s0 H' st e s') s
  |.bad=>True:=by
 have hm:A.mark none=A:=by cases A;rfl
 cases x with
 |bad=>trivial
 |ok r H'=>
  refine lJ ?_ hk (by intro x;cases x);rw[hm];refine bX (hc (by simp)) λr' s' q=>?_;obtain⟨fl,rfl,q⟩:=q;exact q
 |exc H'=>
  refine lJ ?_ hk (by intro x;cases x);rw[hm];refine bX (hc (by simp)) λr' s' q=>?_;obtain⟨e,rfl,q⟩:=q;rw[hL]at q;exact ah (wpAny_mono (q.back hL hft) (λ_ s'' z=>⟨_,.inr (.inr rfl),by rw[hL];exact z⟩) λ_ _ z=>z)
theorem EX.weak{M':Av}{st:Option (Option Addr)}{e:Value}(x:EX G F M A ρ H s H' st e s')(hm:∀a,M a->M' a):EX G F M' A ρ H s H' st e s':=
 ⟨x.ex,x.same,λb o f e n=>x.frm b o f e λm=>n (hm b m),x.stk⟩
theorem Stk.at1{c:Addr}{o0:Obj}(x:Stk F A h)(g0:h.get? c=some o0)(hd:∀es ep,o0.data≠.dict es ep)(kk:∀b o,b≠c->h.get? b=some o->h'.get? b=some o):Stk F A h':=
 x.elim λl w=>⟨l,w.1,λen hen=>by
  obtain⟨k1,L,o,es,ep,e1,f,g,d⟩:=w.2 en hen
  exact⟨k1,L,o,es,ep,e1,f,kk L o (λw=>hd es ep (by rw[w,g0]at g;cases g;exact d)) g,d⟩⟩
theorem Inv.at1{c:Addr}{o0 o1:Obj}(Iv:Inv G F A sc nm env ρ H σ s)(sm:Same s s')(hF:F c)(hMe:∀a,Me env a->a≠c)(kk:∀b o,b≠c->s.heap.get? b=some o->s'.heap.get? b=some o)(g0:s.heap.get? c=some o0)(hd:∀es ep,o0.data≠.dict es ep)
  (g1:s'.heap.get? c=some o1):Inv G F A sc nm env ρ H σ s':=
 have a2:=Aft.at Iv.sr sm hF kk g1
 ⟨a2.sr,Iv.ev.re Iv.ev.meF (λb o m e=>.of (kk b o (hMe b m) e)) (λv u r=>a2.trel (λx w=>w▸hF) r),Iv.st.at1 g0 hd kk,λx f=>(Iv.ft x f).elim λo e=>a2.ext.there x o e⟩
theorem lS{fp:List Addr}{k i:Nat}{P:Nat->Value->Prop}{St:Nat->Heap->Prop}{o1:Obj}{vs:Array Value}(W:Walks G.p G.w A I fp [I] k P St)(st':St i s1.heap)(hfp:∀b∈fp,b=I\/(¬ (F.or (aj ρ H)) b/\∃o,s.heap.get? b=some o))
  (kk:∀b o,b≠I->s.heap.get? b=some o->s1.heap.get? b=some o) (af:Aft G F M ρ H s1 ρ' H' s') (FI:F I) (MI:¬M I) (gI:s1.heap.get? I=some o1) (dI:o1.data = .fields vs) :
  St i s'.heap/\∀b∈fp,b=I\/(¬ (F.or (aj ρ' H')) b/\∃o,s'.heap.get? b=some o):=by
 refine⟨W.frame _ _ _ st' λb hb o e=>(hfp b hb).elim (λw=>?_) λn=>af.ext.keep b o e λm=>n.1 (m.elim .inr .inl),λb hb=>(hfp b hb).elim .inl λn=>(Classical.em (b=I)).elim .inl λw=>n.2.elim λo' e'=>?_⟩
 ·subst w;obtain⟨sl,e2,q⟩:=af.frm b o FI e MI;rw[e2,q λ_ _ w=>by rw[gI]at e;cases e;rw[dI]at w;cases w]
 ·have e2:=kk b o' w e';exact .inr ⟨λm=>(af.ext.grow b m).elim n.1 λz=>Option.some_ne_none _ (e2.symm.trans z),o',af.ext.keep b o' e2 λm=>n.1 (m.elim .inr .inl)⟩
end
end J.Internal
namespace J.Internal
noncomputable section
def d7(G:Cx)(F:Av)(A:Around)(ρ0:List (Addr × Addr))(H0:Hp)(s1:Shared)(s0:Shared)(sc:Scope)(nm:List Str)(env:Env)(outer:List Env)(I:Addr)(L0:Addr)(t:Tg)(target:Expr)(g:ai->Hp->Out (Fl × ai))(body:List Stmt)(xs:List V)(fp:List Addr)(P:Nat->Value->Prop)(St:Nat->Heap->Prop):Prop:=
 ∀(hh:A.handled=none)(hfr:A.frames=some (env::outer))(hL:env.frame=some L0)(ht:vZ sc nm t target)(hn:nm.Nodup)(hb:SS G (F.or λa=>a=I) A sc nm env (Zl env) g (execs body env))(W:Walks G.p G.w A I fp [I] xs.length P St)(hfi:∀i h,St i h->∃o vs T,h.get? I=some o/\o.cls = .type T/\o.data = .fields vs/\bP T=false)(hel:∀i v,i<xs.length->P i v->∃x,xs[i]? = some x/\Rel G ((F.or λa=>a=I).or (aj ρ0 H0)) s1.heap x v)(sr1:SR G (F.or λa=>a=I) ρ0 H0 s1.heap)(sm:Same s0 s1)(k0:∀b o,s0.heap.get? b=some o->s1.heap.get? b=some o)(hI:s0.heap.get? I=none)(hft:∀a,F a->∃o,s0.heap.get? a=some o)(st0:Stk F A s0.heap)(hMe:∀a,Me env a->F a),∀k i,i+k=xs.length->∀{ρ H s σ},Inv G (F.or λa=>a=I) A sc nm env ρ H σ s->Aft G (F.or λa=>a=I) (λx=>Me env x\/x=I) ρ0 H0 s1 ρ H s->St i s.heap->
   (∀b∈fp,b=I\/(¬ ((F.or λa=>a=I).or (aj ρ H)) b/\∃o,s.heap.get? b=some o))->
   LoopR G F A sc nm env ρ0 H0 s0 (.forLoop target (.ref I) body [] env) s (bU (λv σ H=>match bN t v σ with
    |some σ'=>g σ' H
    |none=>.bad) (xs.drop i) σ H)
namespace Kfor_core
def z:=ep (D6 d7)
def G:=z.1
def F:=z.2.1
def A:=z.2.2.1
def ρ0:=z.2.2.2.1
def H0:=z.2.2.2.2.1
def s0:=z.2.2.2.2.2.2.1
def sc:=z.2.2.2.2.2.2.2.1
def nm:=z.2.2.2.2.2.2.2.2.1
def env:=z.2.2.2.2.2.2.2.2.2.1
def I:=z.2.2.2.2.2.2.2.2.2.2.2.1
def body:=z.2.2.2.2.2.2.2.2.2.2.2.2.2.2.2.2.1
def xs:=z.2.2.2.2.2.2.2.2.2.2.2.2.2.2.2.2.2.1
theorem T:d7 G F A ρ0 H0 z.2.2.2.2.2.1 s0 sc nm env z.2.2.2.2.2.2.2.2.2.2.1 I z.2.2.2.2.2.2.2.2.2.2.2.2.1 z.2.2.2.2.2.2.2.2.2.2.2.2.2.1 z.2.2.2.2.2.2.2.2.2.2.2.2.2.2.1 z.2.2.2.2.2.2.2.2.2.2.2.2.2.2.2.1 body xs z.2.2.2.2.2.2.2.2.2.2.2.2.2.2.2.2.2.2.1 z.2.2.2.2.2.2.2.2.2.2.2.2.2.2.2.2.2.2.2.1 z.2.2.2.2.2.2.2.2.2.2.2.2.2.2.2.2.2.2.2.2:=by
 intro hh hfr hL ht hn hb W hfi hel sr1 sm k0 hI hft st0 hMe;have nI:∀a,F a->¬a=I:=λa f w=>by obtain⟨o,e⟩:=hft a f;rw[w,hI]at e;cases e
 have hI':∀x,x=I->s0.heap.get? x=none:=λx w=>by rw[w];exact hI
 have mM:∀x,(λx=>Me env x\/x=I) x->(F.or λa=>a=I) x:=λx m=>m.imp (hMe x) λw=>w;intro k
 induction k with
 |zero=>
  intro i hi ρ H s σ Iv a st hfp hne;rw[List.drop_of_length_le (show xs.length<=i from Ma hi.symm)];refine vc (ah (W.done s _ _ (by rw[show xs.length=i from hi.symm];exact st) λh' tk kk=>va ?_));have kk':∀b o,¬b=I->s.heap.get? b=some o->h'.get? b=some o:=λb o n e=>kk b o (by simp[n]) e;exact ae ⟨.next,rfl,ρ,a.shed2 sm k0 hI' ⟨h',tk,rfl⟩ kk',trivial,Iv.ev.shed kk' λb m=>⟨hMe b m,nI b (hMe b m)⟩,Iv.st.shed2 st0 kk' nI⟩
 |succ k ih=>
  intro i hi ρ H s σ Iv a st hfp;have hlt:i<xs.length:=hi▸Nat.lt_add_of_pos_right (Ms k);rw[List.drop_eq_getElem_cons hlt];rw[mx]
  cases hbt:bN z.2.2.2.2.2.2.2.2.2.2.2.2.2.1 xs[i] σ with
  |none=>intro hne;exact absurd rfl hne
  |some σ'=>
   dsimp only;intro hne;refine vc (ah (W.item i s _ _ hlt st λv h' tk hP st' kk=>?_));dsimp only;obtain⟨o,vs,T,gI,cI,dI,oT⟩:=hfi _ _ st';obtain⟨o0,vs0,T0,gI0,cI0,dI0,_⟩:=hfi _ _ st;have kk':∀b o,b≠I->s.heap.get? b=some o->h'.get? b=some o:=λb o n e=>kk b o (by simp[n]) e;have a2:Aft G (F.or λa=>a=I) (λa=>a=I) ρ H s ρ H {s with heap:=h',toks:=tk}:=Aft.at Iv.sr ⟨h',tk,rfl⟩ (.inr rfl) kk' gI;have I2:Inv G (F.or λa=>a=I) A sc nm env ρ H σ {s with heap:=h',toks:=tk}:=Iv.at1 ⟨h',tk,rfl⟩ (.inr rfl) (λa m=>nI a (hMe a m)) kk' gI0 (λ_ _ w=>by rw[dI0]at w;cases w) gI;refine ah (oK gI cI dI oT ?_);obtain⟨x,ex,rx⟩:=hel i v hlt hP;have exx:xs[i]=x:=by rw[LH hlt]at ex;exact LM ex
   rw[exx]at hbt;have ra:=(a.trans (a2.weak λ_ w=>.inr w)).rel mM rx;refine ah (wpAny_mono (lR hh I2 ht hn (aF ra) hbt) (λ_ s3 L3=>?_) λ_ _ w=>w);have I3:=Lft.inv I2 L3;have a3:Aft G (F.or λa=>a=I) (λx=>Me env x\/x=I) ρ0 H0 z.2.2.2.2.2.1 ρ H s3:=(a.trans (a2.weak λ_ w=>.inr w)).trans (L3.aft.weak λ_ w=>.inl w);have body:=hb I3;generalize hy:z.2.2.2.2.2.2.2.2.2.2.2.2.2.2.2.1 σ' H=y at hne body ⊢
   cases y with
   |bad=>exact absurd rfl hne
   |exc H1=>
    refine ag (show wpS _ _ _ _ _ _ from body) (λ_ _ w=>w.elim) λe s4 q=>?_;obtain⟨st4,hz,q⟩:=q;have q1:=(EX.trans a3 sr1 I3.fr (q.weak λ_ w=>.inl w));have q2:EX G F (Me env) A ρ0 H0 s0 H1 st4 e s4:=q1.shed sm k0 hI' (q.stk.shed st0);refine ah (wpAny_mono (q2.note hfr hL hft (by rw[<-hL];exact hz)) (λ_ s5 z=>⟨e,rfl,by rw[hL];exact z⟩) λ_ _ z=>z)
   |ok r H1=>
    refine ag (show wpS _ _ _ _ _ _ from body) (λfl s4 q=>?_) λ_ _ w=>w.elim;obtain⟨ρ4,a4,rf,ev4,st4⟩:=q;have a5:=a3.trans (a4.weak (M':=λx=>Me env x\/x=I) λ_ w=>.inl w);have I5:Inv G (F.or λa=>a=I) A sc nm env ρ4 H1 r.2 s4:=⟨a4.sr,ev4,st4,λx f=>let ⟨o,e⟩:=I3.ft x f;a4.ext.there x o e⟩;have af:=L3.aft.trans a4;obtain⟨r1,r2⟩:=r
    cases r1 with
    |next=>
     cases fl<;>first|exact rf.elim|skip
     dsimp only;have w:=lS W st' hfp kk' af (.inr rfl) (λm=>nI I (hMe I m) rfl) gI dI;exact ih (i+1) ((Nat.succ_add i k).trans hi) I5 a5 w.1 w.2 hne
    |ret v'=>
     cases fl<;>first|exact rf.elim|skip
     dsimp only;have kr:∀b o,¬b=I->s4.heap.get? b=some o->s4.heap.get? b=some o:=λ_ _ _ e=>e;exact⟨_,rfl,ρ4,a5.shed2 sm k0 hI' (Same.refl _) kr,RFl.shed kr rf,I5.ev.shed kr λb m=>⟨hMe b m,nI b (hMe b m)⟩,I5.st.shed2 st0 kr nI⟩
end Kfor_core
end
theorem v0{G F A ρ0 H0 s1 s0 sc nm env outer I L0 t target g body xs fp P St}:d7 G F A ρ0 H0 s1 s0 sc nm env outer I L0 t target g body xs fp P St:=cN (p:=D6 d7) Kfor_core.T (G,F,A,ρ0,H0,s1,s0,sc,nm,env,outer,I,L0,t,target,g,body,xs,fp,P,St)
variable{G:Cx}
variable{F F' M L:Av}{A:Around}{ρ ρ':List (Addr × Addr)}{H H':Hp}{s s1 s0:Shared}{h h':Heap}
section
variable{sc:Scope}{nm:List Str}{env:Env}{σ σ':ai}{pos:Pos}{x:Str}{n:Nat}{outer:List Env}{I:Addr}
theorem Wps.vb0{α β γ δ:Type}{P:Option (Option Addr)->Prop}{t:Sem α}{k:α->Sem γ}{R:List (Addr × Addr)->Hp->Heap->β->α->Prop}{R':List (Addr × Addr)->Hp->Heap->δ->γ->Prop}{x:Out β}{f:β->Hp->Out δ}
  (sr:SR G F ρ H s.heap) (fr:∀b,b∈frs A->F b) (h:Wps G F al A ρ H s t R P x)
  (hk:∀a b ρ1 H1 s1,x = .ok b H1->Aft G F al ρ H s ρ1 H1 s1->R ρ1 H1 s1.heap b a->Wps G F M A ρ1 H1 s1 (k a) R' P (f b H1)) :
  Wps G F M A ρ H s (t>>=k) R' P (x.vb f):=
 Wps.vb sr fr ((h.mono (R':=λρ1 H1 h b a=>(∀b o,F b->s.heap.get? b=some o->UpS h b o)/\R ρ1 H1 h b a) λb H1 ρ1 s1 a _ af r=>⟨λb o f e=>af.frm b o f e λq=>q,r⟩).weak λ_ w=>w.elim)
  λa b ρ1 H1 s1 e a1 r=>hk a b ρ1 H1 s1 e ⟨a1.same,a1.pre,a1.sr,a1.ext,λb o f e _=>r.1 b o f e⟩ r.2
theorem Wps.sb0{α β γ δ:Type}{P:Option (Option Addr)->Prop}{t:Sem α}{k:α->Sem γ}{R:List (Addr × Addr)->Hp->Heap->β->α->Prop}{R':List (Addr × Addr)->Hp->Heap->δ->γ->Prop}{x:Out β}{f:β->Hp->Out δ}
  (sr:SR G F ρ H s.heap) (fr:∀b,b∈frs A->F b) (h:Wps G F al A ρ H s t R P x)
  (hk:∀a b ρ1 H1 s1,x = .ok b H1->Aft G F al ρ H s ρ1 H1 s1->R ρ1 H1 s1.heap b a->Wps G F M A ρ1 H1 s1 (k a) R' P (f b H1)) :
  Wps G F M A ρ H s (t>>=k) R' P (x.sb f):=
 Wps.sb sr fr ((h.mono (R':=λρ1 H1 h b a=>(∀b o,F b->s.heap.get? b=some o->UpS h b o)/\R ρ1 H1 h b a) λb H1 ρ1 s1 a _ af r=>⟨λb o f e=>af.frm b o f e λq=>q,r⟩).weak λ_ w=>w.elim)
  λa b ρ1 H1 s1 e a1 r=>hk a b ρ1 H1 s1 e ⟨a1.same,a1.pre,a1.sr,a1.ext,λb o f e _=>r.1 b o f e⟩ r.2
noncomputable def j4(e:Expr):Bool:=e.ctorIdx != 7
theorem iL{e:Expr}(h:j4 e=true)(x:Value):foldedSetIterable e env x=pure x:=by
 cases e<;>first|rfl|exact(by cases (show false=true from h))
structure Fr(A:Around)(env:Env)(outer:List Env):Prop where
 hh:A.handled=none
 hfr:A.frames=some (env::outer)
 hL:env.frame=some env.locals
theorem v3{t:Tg}{target:Expr}{g:ai->Hp->Out (Fl × ai)}{body:List Stmt}{xs:List V}{b:V}{v:Value}{Q:Value->Shared->Prop}{E:Value->Shared->Prop}
  (fr:Fr A env outer) (ht:vZ sc nm t target) (hn:nm.Nodup) (hb:∀F',SS G F' A sc nm env (Zl env) g (execs body env)) (Iv:Inv G F A sc nm env ρ H σ s) (r:TRel G ρ (F.or (aj ρ H)) s.heap b v) (he:elems b=some xs)
  (hq:∀I h',LoopR G F A sc nm env ρ H s (.forLoop target (.ref I) body [] env) {s with heap:=h'} (bU (λv σ H=>match bN t v σ with
    |some σ'=>g σ' H
    |none=>.bad) xs σ H)->Q (.ref I) {s with heap:=h'}) :
  wpS (Md G) A (pyIter v) Q E s:=by
 refine ah (mO fr.hh Iv.sr Iv.ft r he λI h' hI k hIt itr=>hq I h' ?_);obtain⟨fp,P,St,W,st0,hm,hfp,hfi,hel⟩:=itr;have wid:=Iv.wid (L:=λa=>a=I) (s1:={s with heap:=h'}) ⟨h',s.toks,rfl⟩ k λx w=>by subst w;exact⟨hI,hIt⟩
 have core:=v0 (G:=G) (F:=F) (s0:=s) (s1:={s with heap:=h'}) fr.hh fr.hfr fr.hL ht hn (hb _) W hfi hel wid.sr ⟨h',s.toks,rfl⟩ k hI Iv.ft Iv.st Iv.ev.meF xs.length 0 (by omega) wid (Aft.refl wid.sr) st0 λb hb=>by
  rcases hfp b hb with w|⟨n,e⟩
  ·exact .inl w
  ·by_cases w:b=I
   ·exact .inl w
   ·exact .inr ⟨λm=>by
     rcases m with (m|m)|m
     ·exact n (.inl m)
     ·exact w m
     ·exact n (.inr m),e⟩
 exact core
theorem EH{t:Tg}{target it:Expr}{e:ai->Hp->Out V}{g:ai->Hp->Out (Fl × ai)}{body:List Stmt}(fr:Fr A env outer)(ht:vZ sc nm t target)(hn:nm.Nodup)(hs:j4 it=true)
  (hi:SE G F A sc nm env (Zl env) e (eval it env)) (hb:∀F',SS G F' A sc nm env (Zl env) g (execs body env)) :
  SS G F A sc nm env (Zl env) (λσ H=>(e σ H).vb λx H1=>match elems x with
   |some xs=>bU (λv σ H=>match bN t v σ with
    |some σ'=>g σ' H
    |none=>.bad) xs σ H1
   |none=>.bad) (exec (.For target it body [] pos) env):=λρ H s σ Iv=>by
 rw[arm_exec_For];refine Wps.via (λQ E q=>aa (ac q)) ?_;refine Wps.vb0 Iv.sr Iv.fr (hi Iv) λv b ρ1 H1 s1 e1 a1 r1=>?_
 cases he:elems b with
 |none=>trivial
 |some xs=>
  dsimp only;have I1:=Iv.aft a1
  have key:∀(Q:Flow->Shared->Prop)(E:Value->Shared->Prop),(∀I h',LoopR G F A sc nm env ρ1 H1 s1 (.forLoop target (.ref I) body [] env) {s1 with heap:=h'} (bU (λv σ H=>match bN t v σ with
    |some σ'=>g σ' H
    |none=>.bad) xs σ H1)->wpS (Md G) A (runOwn (.forLoop target (.ref I) body [] env) env) Q E {s1 with heap:=h'})->
    wpS (Md G) A (do
     let x <-foldedSetIterable it env v
     standAt it.pos
     runOwn (.forLoop target (<-holding [x] (pyIter x)) body [] env) env) Q E s1:=λQ E k=>
   aa (aM (iL hs v) (aa (ac (aa (ad (v3 fr ht hn hb I1 r1 he λI h' q=>k I h' q))))))
  generalize bU _ xs σ H1=y at key ⊢
  cases y with
  |bad=>trivial
  |ok r H'=>exact key _ _ λI h' q=>ag (LoopR.run fr.hL I1.ft rfl q) (λ_ _ ⟨ρ',x,y,z,w⟩=>⟨ρ',x,y,z,w⟩) λ_ _ w=>w.elim
  |exc H'=>exact key _ _ λI h' q=>LoopR.run fr.hL I1.ft rfl q
end
end J.Internal
namespace J.Internal
noncomputable section
def d8(G:Cx)(F:Av)(A:Around)(ρ0:List (Addr × Addr))(H0:Hp)(s0:Shared)(sc:Scope)(nm:List Str)(env:Env)(σ'':ai)(outer:List Env)(test:Expr)(f:ai->Hp->Out Bool)(g:ai->Hp->Out (Fl × ai))(body:List Stmt):Prop:=
 ∀(fr:Fr A env outer)(ht:ST G F A sc nm env (Zl env) f (isTrue test env (eval test env)))(hb:SS G F A sc nm env (Zl env) g (execs body env))(I0:Inv G F A sc nm env ρ0 H0 σ'' s0),∀k {ρ H s σ},Inv G F A sc nm env ρ H σ s->Aft G F (Me env) ρ0 H0 s0 ρ H s->LoopR G F A sc nm env ρ0 H0 s0 (.whileLoop test body [] env) s (n8 f g k σ H)
namespace Kwhl_core
def z:=ep (uY d8)
def env:=z.2.2.2.2.2.2.2.2.1
def f:=z.2.2.2.2.2.2.2.2.2.2.2.2.1
theorem T:d8 z.1 z.2.1 z.2.2.1 z.2.2.2.1 z.2.2.2.2.1 z.2.2.2.2.2.1 z.2.2.2.2.2.2.1 z.2.2.2.2.2.2.2.1 env z.2.2.2.2.2.2.2.2.2.1 z.2.2.2.2.2.2.2.2.2.2.1 z.2.2.2.2.2.2.2.2.2.2.2.1 f z.2.2.2.2.2.2.2.2.2.2.2.2.2.1 z.2.2.2.2.2.2.2.2.2.2.2.2.2.2:=by
 intro fr ht hb I0;intro k
 induction k with
 |zero=>intro ρ H s σ Iv a hne;exact absurd rfl hne
 |succ k ih=>
  intro ρ H s σ Iv a;rw[BR];intro hne;have T:=ht Iv;generalize hx:f σ H=x at hne T ⊢
  cases x with
  |bad=>exact absurd rfl hne
  |exc H1=>exact absurd rfl hne
  |ok b H1=>
   refine vd (ag (show wpS _ _ _ _ _ _ from T) (λb' s1 q=>?_) λ_ _ w=>w.elim);obtain⟨ρ1,a1,rfl⟩:=q;have I1:=Iv.aft a1;have a2:=a.trans (a1.weak (M':=Me env) λ_ w=>w.elim)
   cases b' with
   |false=>exact ae ⟨.next,rfl,ρ1,a2,trivial,I1.ev,I1.st⟩
   |true=>
    rw[if_pos rfl];have B:=hb I1;simp only[Out.vb]at hne ⊢;generalize hy:z.2.2.2.2.2.2.2.2.2.2.2.2.2.1 σ H1=y at hne B ⊢
    cases y with
    |bad=>exact absurd rfl hne
    |exc H2=>exact absurd rfl hne
    |ok r H2=>
     refine ag (show wpS _ _ _ _ _ _ from B) (λfl s2 q=>?_) λ_ _ w=>w.elim;obtain⟨ρ2,a3,rf,ev3,st3⟩:=q;have I3:Inv z.1 z.2.1 z.2.2.1 z.2.2.2.2.2.2.1 z.2.2.2.2.2.2.2.1 env ρ2 H2 r.2 s2:=⟨a3.sr,ev3,st3,λx f=>let ⟨o,e⟩:=I1.ft x f;a3.ext.there x o e⟩;obtain⟨r1,r2⟩:=r
     cases r1 with
     |next=>
      cases fl<;>first|exact rf.elim|skip
      exact ih I3 (a2.trans a3) hne
     |ret v'=>
      cases fl<;>first|exact rf.elim|skip
      exact⟨_,rfl,ρ2,a2.trans a3,rf,ev3,st3⟩
end Kwhl_core
end
theorem v4{G F A ρ0 H0 s0 sc nm env σ'' outer test f g body}:d8 G F A ρ0 H0 s0 sc nm env σ'' outer test f g body:=cN (p:=uY d8) Kwhl_core.T (G,F,A,ρ0,H0,s0,sc,nm,env,σ'',outer,test,f,g,body)
variable{G:Cx}
variable{F M:Av}{A:Around}{ρ ρ':List (Addr × Addr)}{H H':Hp}{s s' s1:Shared}{h h':Heap}{Z:Option (Option Addr)->Prop}
section
variable{sc:Scope}{nm:List Str}{env:Env}{σ:ai}{pos:Pos}{x:Str}{outer:List Env}
theorem EI{test:Expr}{f:ai->Hp->Out Bool}{g:ai->Hp->Out (Fl × ai)}{body:List Stmt}(fr:Fr A env outer)(ht:ST G F A sc nm env (Zl env) f (isTrue test env (eval test env)))(hb:SS G F A sc nm env (Zl env) g (execs body env)) :
  SS G F A sc nm env (Zl env) (λσ H=>n8 f g 64 σ H) (exec (.While test body [] pos) env):=λρ H s σ Iv=>by
 rw[arm_exec_While];refine Wps.via (λQ E q=>aa (ac q)) ?_;have core:=v4 fr ht hb Iv 64 Iv (Aft.refl Iv.sr);show Wps _ _ _ _ _ _ _ _ _ _ (n8 f g 64 σ H);generalize n8 f g 64 σ H=y at core ⊢
 cases y with
 |bad=>trivial
 |ok r H'=>exact ag (LoopR.run fr.hL Iv.ft rfl core) (λ_ _ ⟨ρ',x,y,z,w⟩=>⟨ρ',x,y,z,w⟩) λ_ _ w=>w.elim
 |exc H'=>exact LoopR.run fr.hL Iv.ft rfl core
theorem Cr:SS G F A sc nm env (Zl env) (λσ H=>.ok (.next,σ) H) (execs [] env):=λρ H s σ Iv=>ae ⟨ρ,Aft.refl Iv.sr,trivial,Iv.ev,Iv.st⟩
theorem za{st:Stmt}{rest:List Stmt}{f g:ai->Hp->Out (Fl × ai)}(h:SS G F A sc nm env (Zl env) f (exec st env))(hr:SS G F A sc nm env (Zl env) g (execs rest env)) :
  SS G F A sc nm env (Zl env) (λσ H=>(f σ H).sb λr H1=>match r.1 with
   |.next=>g r.2 H1
   |.ret v=>.ok (.ret v,r.2) H1) (execs (st::rest) env):=λρ H s σ Iv=>by
 refine Wps.via (t:=do match <-exec st env with|.next=>execs rest env|f=>pure f) (λQ E q=>q) ?_;refine Wps.sb Iv.sr Iv.fr (h Iv) λfl r ρ1 H1 s1 e1 a1 ⟨rf,ev1,st1⟩=>?_;have I1:Inv G F A sc nm env ρ1 H1 r.2 s1:=⟨a1.sr,ev1,st1,λx f=>let ⟨o,e⟩:=Iv.ft x f;a1.ext.there x o e⟩;obtain⟨r1,r2⟩:=r
 cases r1 with
 |next=>
  cases fl<;>first|exact rf.elim|skip
  exact hr I1
 |ret v'=>
  cases fl<;>first|exact rf.elim|skip
  exact ae ⟨ρ1,Aft.refl a1.sr,rf,ev1,st1⟩
theorem EJ{test:Expr}{f:ai->Hp->Out Bool}{g k:ai->Hp->Out (Fl × ai)}{a b:List Stmt}(ht:ST G F A sc nm env (Zl env) f (isTrue test env (eval test env)))(ha:SS G F A sc nm env (Zl env) g (execs a env))(hb:SS G F A sc nm env (Zl env) k (execs b env)) :
  SS G F A sc nm env (Zl env) (λσ H=>(f σ H).vb λr H1=>match r with
   |true=>g σ H1
   |false=>k σ H1) (exec (.If test a b pos) env):=λρ H s σ Iv=>by
 rw[arm_exec_If];refine Wps.via (λQ E q=>aa (ac q)) ?_;refine Wps.vb0 Iv.sr Iv.fr (ht Iv) λb' b ρ1 H1 s1 e1 a1 r1=>?_;subst r1
 cases b' with
 |true=>exact ha (Iv.aft a1)
 |false=>exact hb (Iv.aft a1)
theorem EK{v:Expr}{f:ai->Hp->Out V}(h:SE G F A sc nm env (Zl env) f (eval v env)) :
  SS G F A sc nm env (Zl env) (λσ H=>(f σ H).sb λv H1=>.ok (.ret v,σ) H1) (exec (.Return (some v) pos) env):=λρ H s σ Iv=>by
 rw[arm_exec_Return];refine Wps.via (λQ E q=>aa (ac q)) ?_;refine Wps.sb0 Iv.sr Iv.fr (h Iv) λa b ρ1 H1 s1 e1 a1 r1=>?_;have I1:=Iv.aft a1;exact ae ⟨ρ1,Aft.refl a1.sr,r1,I1.ev,I1.st⟩
end
section
variable{sc:Scope}{nm:List Str}{env:Env}{σ σ':ai}{pos p q r:Pos}{x y z:Str}
noncomputable def cH(e:Expr):Bool:=!(Nat.ble 8 e.ctorIdx&&Nat.ble e.ctorIdx 10)
theorem de{e:Expr}{t:Option Expr}{l:Nat}(h:cH e=true):swapsWith e t l env=pure false:=by
 cases e<;>first|rfl|exact(by cases (show false=true from h))
theorem Lft.post(a:Lft G F A sc nm env ρ H σ s ρ' H' σ' s'):Aft G F (Me env) ρ H s ρ' H' s'/\RFl G F ρ' H' s'.heap Fl.next Flow.next/\EnvR G F ρ' H' sc nm env σ' s'.heap/\Stk F A s'.heap:=⟨a.aft,trivial,a.ev,a.st⟩
theorem EL{i:Nat}{v:Expr}{f:ai->Hp->Out V}(hN:t9 sc nm i x)(hn:nm.Nodup)(hs:cH v=true)(h:SE G F A sc nm env (Zl env) f (eval v env)) :
  SS G F A sc nm env (Zl env) (λσ H=>(f σ H).vb λv H1=>.ok (.next,ao σ i v) H1) (exec (.Assign [.Name x p] v pos) env):=λρ H s σ Iv=>by
 rw[exec_Assign_Name env x p v pos (de hs)];refine Wps.via (λQ E q=>aa (ac q)) ?_;refine Wps.vb0 Iv.sr Iv.fr (h Iv) λa b ρ1 H1 s1 e1 a1 r1=>?_;have I1:=Iv.aft a1;exact aa (ac (aa (ah (wpAny_bindName (wpAny_mono (gQ I1 hN.1 hN.2 hn r1) (λ_ s2 L2=>ae ⟨ρ1,L2.post⟩) λ_ _ w=>w)))))
theorem eZ{α β γ:Type}{M:Model}{t:Sem α}{k:α->Sem β}{k':β->Sem γ}{Q:γ->Shared->Prop}{E:Value->Shared->Prop}(h:wpS M A (t>>=λa=>k a>>=k') Q E s):wpS M A ((t>>=k)>>=k') Q E s:=λΓ p hΓ hc=>by
 have z:=h Γ p hΓ hc;simp only[Sem.wp_bind']at z ⊢;exact z
theorem Bn{α β:Type}{t:Sem α}{R:List (Addr × Addr)->Hp->Heap->β->α->Prop}{x:Out β}(Iv:Inv G F A sc nm env ρ H σ s)(h:Wps G F al A ρ H s t R (Zl env) x) :
  Wps G F (Me env) A ρ H s (do let _ <-t;pure Flow.next) (λρ' H' h' r fl=>RFl G F ρ' H' h' r.1 fl/\EnvR G F ρ' H' sc nm env r.2 h'/\Stk F A h') (Zl env) (x.vb λ_ H1=>.ok (.next,σ) H1):=
 Wps.vb0 Iv.sr Iv.fr h λa b ρ1 H1 s1 e1 a1 r1=>ae ⟨ρ1,Aft.refl a1.sr,trivial,(Iv.aft a1).ev,(Iv.aft a1).st⟩
theorem Cs{o v:Expr}{k:Nat}{e f:ai->Hp->Out V}(bg:Bg G)(hs:cH v=true)(hv:SE G F A sc nm env (Zl env) f (eval v env))(ho:SE G F A sc nm env (Zl env) e (eval o env)) :
  SS G F A sc nm env (Zl env) (λσ H=>(f σ H).vb λv H1=>(e σ H1).vb λx H2=>(jH x k v H2).vb λ_ H3=>.ok (.next,σ) H3) (exec (.Assign [.Attribute o (S' (G.an k)) p] v pos) env):=λρ H s σ Iv=>by
 rw[plainObj_exec_Assign_Attribute o _ p v pos (de hs)];simp only[assign_Attribute];refine Wps.via (λQ E q=>aa (ac q)) ?_;refine Wps.vb0 Iv.sr Iv.fr (hv Iv) λv' b ρ1 H1 s1 e1 a1 r1=>?_;have I1:=Iv.aft a1;refine Wps.via (λQ E q=>eZ q) ?_;refine Wps.vb0 I1.sr I1.fr ((ho I1).via λQ E q=>ad q) λov b2 ρ2 H2 s2 e2 a2 r2=>?_;have I2:=I1.aft a2;have op:=yW (Z:=Zl env) (k:=k) bg I2 r2 (a2.trel (λ_ w=>w.elim) r1);exact Bn I2 (op.via λQ E q=>aa (ac (aa (ad (ag q (λ_ _ w=>bO w) λ_ _ w=>w)))))
theorem Ct{o i v:Expr}{e f g:ai->Hp->Out V}(hs:cH v=true)(hsl:∀lo hi st p,i≠.Slice lo hi st p)(hv:SE G F A sc nm env (Zl env) f (eval v env))(ho:SE G F A sc nm env (Zl env) e (eval o env))(hi:SE G F A sc nm env (Zl env) g (eval i env)) :
  SS G F A sc nm env (Zl env) (λσ H=>(f σ H).vb λv H1=>(e σ H1).vb λx H2=>(g σ H2).vb λy H3=>(dU x y v H3).vb λ_ H4=>.ok (.next,σ) H4) (exec (.Assign [.Subscript o i p] v pos) env):=λρ H s σ Iv=>by
 rw[exec_Assign_Subscript o i p v pos (de hs)];refine Wps.via (λQ E q=>aa (ac q)) ?_;refine Wps.vb0 Iv.sr Iv.fr (hv Iv) λv' b ρ1 H1 s1 e1 a1 r1=>?_;rw[assign_Subscript];have I1:=Iv.aft a1;refine Wps.via (λQ E q=>eZ q) ?_;refine Wps.vb0 I1.sr I1.fr ((ho I1).via λQ E q=>ad q) λov b2 ρ2 H2 s2 e2 a2 r2=>?_;have I2:=I1.aft a2;refine Wps.via (λQ E q=>eZ q) ?_;refine Wps.vb0 I2.sr I2.fr ((hi I2).via λQ E q=>ad q) λiv b3 ρ3 H3 s3 e3 a3 r3=>?_;have I3:=I2.aft a3;have op:=yV (Z:=Zl env) I3 (a3.trel (λ_ w=>w.elim) r2) r3 (a3.trel (λ_ w=>w.elim) (a2.trel (λ_ w=>w.elim) r1));exact Bn I3 (op.via λQ E q=>aa (ac (aa (ad (ag q (λ_ _ w=>bO w) λ_ _ w=>w)))))
theorem EM{v:Expr}{f:ai->Hp->Out V}(hi:interactive env=false)(hs:cH v=true)(h:SE G F A sc nm env (Zl env) f (eval v env)) :
  SS G F A sc nm env (Zl env) (λσ H=>(f σ H).sb λ_ H1=>.ok (.next,σ) H1) (exec (.Expr v pos) env):=λρ H s σ Iv=>by
 rw[exec_Expr env v pos hi (de hs)];refine Wps.via (λQ E q=>aa (ac q)) ?_;refine Wps.sb0 Iv.sr Iv.fr (h Iv) λa b ρ1 H1 s1 e1 a1 r1=>?_;have I1:=Iv.aft a1;exact ah (wpAny_dropValue ⟨ρ1,Aft.refl I1.sr,trivial,I1.ev,I1.st⟩)
end
section
variable{sc:Scope}{nm:List Str}{env:Env}{σ:ai}{pos p q r tp vp:Pos}{x y z:Str}{n tk vk:Nat}
noncomputable def v5(e:Expr):Bool:=e.ctorIdx != 25
theorem qw{ts:List Expr}{k:Nat}{p:Pos}{e:Expr}(h:v5 e=true):swappedStores [.Tuple ts k p] e env=pure none:=by
 cases e<;>first|rfl|exact(by cases (show false=true from h))
theorem si{ts:List Expr}{k l:Nat}{p:Pos}{e:Expr}(h:cH e=true):swapsWithSole [.Tuple ts k p] e l env=pure false:=by unfold swapsWithSole;exact de h
theorem Cu{i j:Nat}{v:Expr}{f:ai->Hp->Out V}(hh:A.handled=none)(h1:t9 sc nm i x)(h2:t9 sc nm j y)(hn:nm.Nodup)(hs:cH v=true)(ht:v5 v=true)(h:SE G F A sc nm env (Zl env) f (eval v env)) :
  SS G F A sc nm env (Zl env) (λσ H=>(f σ H).vb λv H1=>v.onT (λxs=>pS xs (λa b=>.ok (.next,ao (ao σ i a) j b) H1) .bad) .bad) (exec (.Assign [.Tuple [.Name x p,.Name y q] tk tp] v pos) env):=λρ H s σ Iv=>by
 rw[arm_exec_Assign];refine Wps.via (λQ E q=>aa (ac (aa (aM (si hs) (qc (by rw[if_neg (by decide)];exact q)))))) ?_;refine Wps.vb0 Iv.sr Iv.fr (h Iv) λa b ρ1 H1 s1 e1 a1 r1=>Wps.via (λQ E q=>aa (aM (qw ht) q)) ?_
 exact kT (P:=λb o=>TRel G ρ1 (F.or (aj ρ1 H1)) s1.heap b a->Wps G F (Me env) A ρ1 H1 s1 _ _ (Zl env) o) (λ_=>trivial) (λxs=>e2 (P:=λxs o=>TRel G ρ1 (F.or (aj ρ1 H1)) s1.heap (.tup xs) a->Wps G F (Me env) A ρ1 H1 s1 _ _ (Zl env) o) (λ_=>trivial) λb1 b2 r1=>
  aa (ah (wpAny_mono (lR (t:=.two i j) hh (Iv.aft a1) ⟨x,p,y,q,tk,tp,rfl,h1,h2⟩ hn r1 rfl) (λ_ s2 L2=>ae ⟨ρ1,L2.post⟩) λ_ _ w=>w))) r1
noncomputable def v6(e:Expr):Bool:=e.ctorIdx==19
noncomputable def v7(e:Expr):Bool:=e.ctorIdx==24||e.ctorIdx==6
noncomputable def noStar(e:Expr):Bool:=e.ctorIdx != 22
theorem e9{e:Expr}(h:v6 e=true):foldedForSure 8 e=true:=Expr.Constant.elim (motive_1:=λe=>foldedForSure 8 e=true) e (eq_of_beq h) λ_ _ _=>rfl
theorem gS{e:Expr}(h:v7 e=true):constantsAlone 8 e=false:=(Bool.or_eq_true_iff.mp h).elim (λh=>Expr.List.elim (motive_1:=λe=>constantsAlone 8 e=false) e (eq_of_beq h) λ_ _=>rfl)
 λh=>Expr.Dict.elim (motive_1:=λe=>constantsAlone 8 e=false) e (eq_of_beq h) λ_ _ _=>rfl
theorem v8{c1 c2 c3 c4 c5:Prop}{d1:Decidable c1}{d2:Decidable c2}{d3:Decidable c3}{d4:Decidable c4}{d5:Decidable c5}{r n u w:Sem (Option (List Str))}(h:c5->c4)
  (e:r = @ite _ c1 d1 n (@ite _ c2 d2 n (@ite _ c3 d3 n (@ite _ c4 d4 n (@ite _ c5 d5 u w))))):r=n\/(r=w/\¬c3):=by
 subst e
 by_cases h1:c1
 ·exact .inl (if_pos h1)
 rw[if_neg h1]
 by_cases h2:c2
 ·exact .inl (if_pos h2)
 rw[if_neg h2]
 by_cases h3:c3
 ·exact .inl (if_pos h3)
 rw[if_neg h3]
 by_cases h4:c4
 ·exact .inl (if_pos h4)
 exact .inr ⟨by rw[if_neg h4,if_neg λw=>h4 (h w)],h3⟩
theorem gU{c:Prop}{d:Decidable c}{x:Str} : @ite _ c d (some x) none=some x\/@ite _ c d (some x) none=none:=by
 by_cases h:c
 ·exact .inl (if_pos h)
 ·exact .inr (if_neg h)
theorem gV{f:Expr->Option Str}{a:Expr}{x:Str}{l:List Expr}(ha:f a=some x\/f a=none)(h:((a::l).filterMap f).length=l.length+1):(a::l).filterMap f=x::l.filterMap f/\(l.filterMap f).length=l.length:=by
 rcases ha with ha|ha
 ·rw[List.filterMap_cons_some ha]at h ⊢;exact⟨rfl,Nat.succ.inj h⟩
 ·rw[List.filterMap_cons_none ha]at h;exact absurd h (L4 (Nat.lt_succ_of_le (List.length_filterMap_le f l)))
theorem Js{f:Expr->Option Str}{a b:Expr}{x y:Str}(ha:f a=some x\/f a=none)(hb:f b=some y\/f b=none)(h:([a,b].filterMap f).length=2):[a,b].filterMap f=[x,y]:=
 (gV ha h).1.trans (congrArg (x::·) (gV hb (gV ha h).2).1)
theorem KR{f:Expr->Option Str}{a b c:Expr}{x y z:Str}(ha:f a=some x\/f a=none)(hb:f b=some y\/f b=none)(hc:f c=some z\/f c=none)(h:([a,b,c].filterMap f).length=3):[a,b,c].filterMap f=[x,y,z]:=
 (gV ha h).1.trans (congrArg (x::·) (Js hb hc (gV ha h).2))
theorem v9{a b:Expr}(hxy:x≠y)(hs:noStar a=true/\noStar b=true)(hk:((v6 a&&v6 b)||(v7 a||v7 b))=true) :
  swappedStores [.Tuple [.Name x p,.Name y q] tk tp] (.Tuple [a,b] vk vp) env=pure none\/swappedStores [.Tuple [.Name x p,.Name y q] tk tp] (.Tuple [a,b] vk vp) env=pure (some [x,y]):=by
 have hc:[a,b].all (constantsAlone 8)=true->[a,b].all (foldedForSure 8)=true:=λh2=>by
  simp only[List.all_cons,List.all_nil,Bool.and_true,Bool.and_eq_true]at h2 ⊢;simp only[Bool.or_eq_true,Bool.and_eq_true]at hk;rcases hk with ⟨k1,k2⟩|k|k
  ·exact⟨e9 k1,e9 k2⟩
  ·rw[gS k]at h2;exact absurd h2.1 L8
  ·rw[gS k]at h2;exact absurd h2.2 L8
 rcases v8 (r:=swappedStores [.Tuple [.Name x p,.Name y q] tk tp] (.Tuple [a,b] vk vp) env) hc rfl with h|⟨h,hN⟩
 ·exact .inl h
 ·exact .inr (h.trans (congrArg (λl=>pure (some l)) (Js gU gU (Decidable.byContradiction λw=>hN (Bool.or_eq_true_iff.mpr (.inl (bne_iff_ne.mpr w)))))))
theorem wa{r:Pos}{a b c:Expr}(hk:((v6 a&&v6 b&&v6 c)||(v7 a||v7 b||v7 c))=true) :
  swappedStores [.Tuple [.Name x p,.Name y q,.Name z r] tk tp] (.Tuple [a,b,c] vk vp) env=pure none\/swappedStores [.Tuple [.Name x p,.Name y q,.Name z r] tk tp] (.Tuple [a,b,c] vk vp) env=pure (some [x,y,z]):=by
 have hc:[a,b,c].all (constantsAlone 8)=true->[a,b,c].all (foldedForSure 8)=true:=λh2=>by
  simp only[List.all_cons,List.all_nil,Bool.and_true,Bool.and_eq_true]at h2 ⊢;simp only[Bool.or_eq_true,Bool.and_eq_true]at hk;rcases hk with ⟨⟨k1,k2⟩,k3⟩|(k|k)|k
  ·exact⟨e9 k1,e9 k2,e9 k3⟩
  ·rw[gS k]at h2;exact absurd h2.1 L8
  ·rw[gS k]at h2;exact absurd h2.2.1 L8
  ·rw[gS k]at h2;exact absurd h2.2.2 L8
 rcases v8 (r:=swappedStores [.Tuple [.Name x p,.Name y q,.Name z r] tk tp] (.Tuple [a,b,c] vk vp) env) hc rfl with h|⟨h,hN⟩
 ·exact .inl h
 ·exact .inr (h.trans (congrArg (λl=>pure (some l)) (KR gU gU gU (Decidable.byContradiction λw=>hN (Bool.or_eq_true_iff.mpr (.inl (bne_iff_ne.mpr w)))))))
def HJ(G:Cx)(env:Env)(x:Str)(t:Value->Sem Unit):Prop:=∀{A:Around}{v:Value}{Q:Unit->Shared->Prop}{E:Value->Shared->Prop}{s:Shared},wpAny (Md G) A (storeName env x v) Q E s->wpAny (Md G) A (t v) Q E s
theorem wb:HJ G env x (bindName env x):=λh=>wpAny_bindName h
theorem dg:HJ G env x (assign (.Name x p) env):=λh=>by
 rw[arm_assign_Name];exact wpAny_bind (wpAny_standAt (wpAny_bindName h))
noncomputable def Stos(G:Cx)(env:Env):List (Nat × Str)->List (Value->Sem Unit)->Prop
 |[],ts=>ts=[]
 |n::l,ts=>∃t r,ts=t::r/\HJ G env n.2 t/\Stos G env l r
theorem Stos.length:∀{l:List (Nat × Str)}{ts:List (Value->Sem Unit)},Stos G env l ts->ts.length=l.length:=by
 intro l
 induction l with
 |nil=>
  intro _ h;rw[show _=[]from h];rfl
 |cons xx rr ih=>
  rintro _ ⟨_,_,e,_,h⟩;subst e;simp[ih h]
noncomputable def d9(σ:ai)(l:List (Nat × Str))(vs:List V):ai:=List.rec (motive:=λ_=>ai->List V->ai) (λσ _=>σ) (λp _ g σ vs=>vs.casesOn σ λv vs=>g (ao σ p.1 v) vs) l σ vs
theorem sj{E:Value->Shared->Prop}(hn:nm.Nodup){l:List (Nat × Str)}:∀{ts:List (Value->Sem Unit)}{vs:List V}{us:List Value}{σ:ai}{s:Shared},Stos G env l ts->(∀n∈l,t9 sc nm n.1 n.2)->vs.length=l.length->
  RTs G F ρ H s.heap vs us->Inv G F A sc nm env ρ H σ s->wpAny (Md G) A (assignInOrder ts us) (λ_ s'=>Lft G F A sc nm env ρ H σ s ρ H (d9 σ l vs) s') E s:=by
 induction l with
 |nil=>exact λ{ts}{vs}{us}{σ}{s} hS _ _ _ Iv=>(show ts=[]from hS)▸wpAny_pure (Lft.of_aft Iv (Aft.refl Iv.sr))
 |cons p l ih=>
  intro ts vs us σ s hS hN hl rt Iv
  cases vs with
  |nil=>cases hl
  |cons v vs=>
   obtain⟨t,ts,rfl,h1,h2⟩:=hS;obtain⟨u,r,rfl,r1,r2⟩:=rt;show wpAny _ _ (holding _ _>>=λ_=>assignInOrder _ _) _ _ _;have ok:=hN _ (.head _);refine wpAny_bind (wpAny_holding (h1 (wpAny_mono (gQ Iv ok.1 ok.2 hn r1) (λ_ s2 L2=>?_) λ_ _ w=>w)));exact wpAny_mono (ih h2 (λn hm=>hN n (.tail _ hm)) (Nat.succ.inj hl) (RTs.aft L2.aft Iv.ev.meF r2) (Lft.inv Iv L2)) (λ_ s3 L3=>L2.trans L3) λ_ _ w=>w
theorem RTs.rev{vs:List V}{us:List Value}{h:Heap}:∀{ws:List V}{as:List Value},RTs G F ρ H h vs us->RTs G F ρ H h ws as->RTs G F ρ H h (vs.reverseAux ws) (us.reverseAux as):=by
 induction vs generalizing us with
 |nil=>intro ws as r q;rw[show us=[]from r];exact q
 |cons v vs ih=>
  intro ws as r q;obtain⟨u,r',rfl,r1,r2⟩:=r;exact ih (us:=r') (ws:=v::ws) (as:=u::as) r2 ⟨u,as,rfl,r1,q⟩
theorem fI(σ:ai):∀{i j:Nat}(u w:V),i≠j->ao (ao σ i u) j w=ao (ao σ j w) i u:=by
 induction σ with
 |nil=>exact λ_ _ _=>rfl
 |cons x r ih=>
  intro i j u w h
  cases i with
  |zero=>cases j with
   |zero=>exact absurd rfl h
   |succ j=>rfl
  |succ i=>cases j with
   |zero=>rfl
   |succ j=>exact congrArg (x::·) (ih u w λe=>h (congrArg Nat.succ e))
end
end J.Internal
namespace J.Internal
noncomputable section
def mP(G:Cx)(F:Av)(A:Around)(ρ:List (Addr × Addr))(H:Hp)(s:Shared)(sc:Scope)(nm:List Str)(env:Env)(σ:ai)(tp:Pos)(vp:Pos)(tk:Nat)(vk:Nat)(l:List (Nat × Str))(elts:List Expr)(ves:List Expr)(vs:List V)(us:List Value):Prop:=
 ∀(hh:A.handled=none)(hn:nm.Nodup)(hN:∀n∈l,t9 sc nm n.1 n.2)(hl:vs.length=l.length)(hl3:l.length<=3)(hA:Stos G env l ((assignEach elts env).map (·.2)))(hstar:(assignEach elts env).findIdx? (·.1)=none)(hw:swappedStores [.Tuple elts tk tp] (.Tuple ves vk vp) env=pure none\/swappedStores [.Tuple elts tk tp] (.Tuple ves vk vp) env=pure (some (l.map (·.2))))(hr:d9 σ l.reverse vs.reverse=d9 σ l vs)(Iv:Inv G F A sc nm env ρ H σ s)(rt:RTs G F ρ H s.heap vs us),wpS (Md G) A (do let v <-newTuple us;assignStores env v (<-swappedStores [.Tuple elts tk tp] (.Tuple ves vk vp) env) ((assignEach [.Tuple elts tk tp] env).map (·.2)))
   (λfl s'=>∃ρ',Aft G F (Me env) ρ H s ρ' H s'/\RFl G F ρ' H s'.heap Fl.next fl/\EnvR G F ρ' H sc nm env (d9 σ l vs) s'.heap/\Stk F A s'.heap) (λ_ _=>False) s
namespace KasgD
def z:=ep (BP mP)
def G:=z.1
def F:=z.2.1
def A:=z.2.2.1
def ρ:=z.2.2.2.1
def H:=z.2.2.2.2.1
def s:=z.2.2.2.2.2.1
def sc:=z.2.2.2.2.2.2.1
def nm:=z.2.2.2.2.2.2.2.1
def env:=z.2.2.2.2.2.2.2.2.1
def σ:=z.2.2.2.2.2.2.2.2.2.1
def l:=z.2.2.2.2.2.2.2.2.2.2.2.2.2.2.1
def vs:=z.2.2.2.2.2.2.2.2.2.2.2.2.2.2.2.2.2.1
def us:=z.2.2.2.2.2.2.2.2.2.2.2.2.2.2.2.2.2.2
theorem T:mP G F A ρ H s sc nm env σ z.2.2.2.2.2.2.2.2.2.2.1 z.2.2.2.2.2.2.2.2.2.2.2.1 z.2.2.2.2.2.2.2.2.2.2.2.2.1 z.2.2.2.2.2.2.2.2.2.2.2.2.2.1 l z.2.2.2.2.2.2.2.2.2.2.2.2.2.2.2.1 z.2.2.2.2.2.2.2.2.2.2.2.2.2.2.2.2.1 vs us:=by
 intro hh hn hN hl hl3 hA hstar hw hr Iv rt;have hul:us.length=l.length:=by rw[RTs.length rt,hl]
 have hz:us.length<=aq:=by rw[hul];exact LB hl3 (by decide)
 refine aa (ah (wpAny_newTuple ?_ (LB hz (by decide))));have k:=@aA s.heap {cls:=.type "tuple", data:=.seq us.toArray};have af:Aft G F al ρ H s ρ H {s with heap:=s.heap.push {cls:=.type "tuple", data:=.seq us.toArray}}:=.keeps Iv.sr ⟨_,s.toks,rfl⟩ k;have I1:=Iv.aft af;have L1:=Lft.of_aft Iv af;have ht:(s.heap.push {cls:=.type "tuple", data:=.seq us.toArray}).IsTuple s.heap.objs.size us.toArray:=⟨_,Heap.get?_push_size _ rfl,rfl,0,rfl⟩;have rt1:RTs G F ρ H (s.heap.push {cls:=.type "tuple", data:=.seq us.toArray}) vs us:=RTs.aft af (λ_ w=>w.elim) rt;have step:∀h',Heap.ExtBut (s.heap.push {cls:=.type "tuple", data:=.seq us.toArray}).objs.size (s.heap.push {cls:=.type "tuple", data:=.seq us.toArray}) h'->
   ∃_:Aft G F al ρ H s ρ H {s with heap:=h'},Inv G F A sc nm env ρ H σ {s with heap:=h'}/\Lft G F A sc nm env ρ H σ s ρ H σ {s with heap:=h'}/\RTs G F ρ H h' vs us:=λh' hx=>by
  have a2:Aft G F al ρ H {s with heap:=s.heap.push {cls:=.type "tuple", data:=.seq us.toArray}} ρ H {s with heap:=h'}:=.keeps I1.sr ⟨h',s.toks,rfl⟩ λb o e=>hx b o (L4 (Heap.lt_size e)) e;exact⟨af.trans a2,I1.aft a2,Lft.of_aft Iv (af.trans a2),RTs.aft a2 (λ_ w=>w.elim) rt1⟩
 rcases hw with hw|hw
 ·rw[hw];refine aa (ae (ah ?_));show wpAny _ _ (do assign (.Tuple z.2.2.2.2.2.2.2.2.2.2.2.2.2.2.2.1 z.2.2.2.2.2.2.2.2.2.2.2.2.1 z.2.2.2.2.2.2.2.2.2.2.1) env (.ref s.heap.objs.size);pure Flow.next) _ _ _;refine wpAny_bind (wpAny_assign_Tuple hh ht (by have:=hA.length;simp only[List.length_map]at this;rw[this];simp[hul]) hstar λh' hx=>?_);obtain⟨_,I2,L2,rt2⟩:=step h' hx;exact wpAny_mono (sj hn hA hN hl (by simpa using rt2) I2) (λ_ s3 L3=>wpAny_pure ⟨ρ,(L2.trans L3).post⟩) λ_ _ w=>w
 ·rw[hw];refine aa (ae (ah ?_));unfold assignStores;dsimp only;have hsz:(l.map (·.2)).length=us.toArray.size:=by simp[hul]
  rw[hsz];refine wpAny_bind (wpAny_rule (wpAny_bind (wpAny_unpackItems_tuple hh ht λh' hx=>?_)));obtain⟨_,I2,L2,rt2⟩:=step h' hx
  have hs1:∀m:List (Nat × Str),Stos G env m ((m.map (·.2)).map λn=>bindName env n):=λm=>by
   induction m with
   |nil=>rfl
   |cons a m ih=>exact⟨_,_,rfl,wb,ih⟩
  have hs2:Stos G env l.reverse ((l.map (·.2)).reverse.map λn=>bindName env n):=by rw[<-List.map_reverse];exact hs1 _
  have rt3:RTs G F ρ H h' vs.reverse us.reverse:=RTs.rev rt2 (show RTs G F ρ H h' [] []from rfl);have B:=sj (G:=G) (E:=λ_ _=>False) (s:={s with heap:=h'}) hn hs2 (λn hm=>hN n (List.mem_reverse.mp hm)) (by simp[hl]) rt3 I2;rw[hr]at B;exact wpAny_bind (wpAny_mono B (λ_ s3 L3=>wpAny_pure ⟨ρ,(L2.trans L3).post⟩) λ_ _ w=>w)
end KasgD
end
theorem HK{G F A ρ H s sc nm env σ tp vp tk vk l elts ves vs us}:mP G F A ρ H s sc nm env σ tp vp tk vk l elts ves vs us:=cN (p:=BP mP) KasgD.T (G,F,A,ρ,H,s,sc,nm,env,σ,tp,vp,tk,vk,l,elts,ves,vs,us)
variable{G:Cx}
variable{F:Av}{A:Around}{ρ:List (Addr × Addr)}{H H':Hp}{s s1:Shared}
section
variable{sc:Scope}{nm:List Str}{env:Env}{σ:ai}{pos q tp vp:Pos}{n tk vk:Nat}
theorem wc{l:List (Nat × Str)}{elts ves:List Expr}{g:ai->Hp->Out (List V)}(hh:A.handled=none)(hn:nm.Nodup)(hN:∀n∈l,t9 sc nm n.1 n.2)(hl3:l.length<=3)
  (hA:Stos G env l ((assignEach elts env).map (·.2))) (hstar:(assignEach elts env).findIdx? (·.1)=none)
  (hw:swappedStores [.Tuple elts tk tp] (.Tuple ves vk vp) env=pure none\/swappedStores [.Tuple elts tk tp] (.Tuple ves vk vp) env=pure (some (l.map (·.2))))
  (hr:∀σ vs,vs.length=l.length->d9 σ l.reverse vs.reverse=d9 σ l vs) (hg:lx G F A sc nm env (Zl env) g (spliced (backTo vp (starEach ves env)))) (hl:∀σ H vs H',g σ H = .ok vs H'->vs.length=l.length) :
  SS G F A sc nm env (Zl env) (λσ H=>(g σ H).vb λvs H1=>.ok (.next,d9 σ l vs) H1) (exec (.Assign [.Tuple elts tk tp] (.Tuple ves vk vp) pos) env):=λρ H s σ Iv=>by
 rw[arm_exec_Assign];refine Wps.via (λQ E q=>aa (ac (aa (aM (si rfl) (qc (by rw[if_neg (by decide)];exact q)))))) ?_;rw[arm_eval_Tuple];refine Wps.via (λQ E q=>eZ (aa (ac (eZ q)))) ?_;refine Wps.vb0 Iv.sr Iv.fr (hg Iv) λus vs ρ1 H1 s1 e1 a1 r1=>?_;have I1:=Iv.aft a1;exact HK hh hn hN (hl _ _ _ _ e1) hl3 hA hstar hw (hr σ vs (hl _ _ _ _ e1)) I1 r1
end
end J.Internal
namespace J.Internal
noncomputable section
def Aft.shedOwn_P(G:Cx)(F:Av)(M:Av)(L:Av)(ρ:List (Addr × Addr))(ρ':List (Addr × Addr))(H:Hp)(H':Hp)(s:Shared)(s':Shared)(s'':Shared)(s1:Shared)(q:Addr × Addr)(o:O):Prop:=
 ∀(a:Aft G (F.or L) (λx=>M x\/L x) ρ H s1 ρ' H' s')(sm:Same s s1)(k:∀b o,s.heap.get? b=some o->s1.heap.get? b=some o)(hL:∀x,L x->s.heap.get? x=none)(sm':Same s' s'')(k':∀b o,¬L b->s'.heap.get? b=some o->s''.heap.get? b=some o)(hq:∀a∈aI o q,L a)(hF:∀a,F a->¬L a)(hr:RelO G (ρ'++[q]) (F.or (aj (ρ'++[q]) (H'++[o]))) s''.heap q o),Aft G F M ρ H s (ρ'++[q]) (H'++[o]) s''
namespace KAft_shedOwn
def z:=ep (D5 Aft.shedOwn_P)
def F:=z.2.1
def L:=z.2.2.2.1
def ρ':=z.2.2.2.2.2.1
def H':=z.2.2.2.2.2.2.2.1
def s':=z.2.2.2.2.2.2.2.2.2.1
def s'':=z.2.2.2.2.2.2.2.2.2.2.1
def q:=z.2.2.2.2.2.2.2.2.2.2.2.2.1
def o:=z.2.2.2.2.2.2.2.2.2.2.2.2.2
theorem T:Aft.shedOwn_P z.1 F z.2.2.1 L z.2.2.2.2.1 ρ' z.2.2.2.2.2.2.1 H' z.2.2.2.2.2.2.2.2.1 s' s'' z.2.2.2.2.2.2.2.2.2.2.2.1 q o:=by
 intro a sm k hL sm' k' hq hF hr;have b:=a.shed2 sm k hL sm' k';have oa:=λa=>dX (q:=q) (o:=o) (a:=a) b.sr.len
 have sub:∀x,F.or (aj (ρ'++[q]) (H'++[o])) x->(F.or L).or (aj ρ' H') x:=λx w=>by
  rcases w with f|w
  ·exact .inl (.inl f)
  ·rcases(oa x).mp w with w|m
   ·exact .inr w
   ·exact .inl (.inr (hq x m))
 have ext:Ext0 L ((F.or L).or (aj ρ' H')) (F.or (aj (ρ'++[q]) (H'++[o]))) s'.heap s''.heap:=⟨λb o e n=>k' b o n e,λx w=>.inl (sub x w)⟩;have nO:∀x,aj ρ' H' x->¬L x:=λx w l=>a.sr.disj x w (.inr l);refine⟨b.same,b.pre.trans (List.prefix_append _ _),⟨?_,?_,?_,?_,?_,?_⟩,⟨b.ext.keep,b.ext.there,λx w=>?_⟩,b.frm⟩
 ·simp[b.sr.len]
 ·intro i q' o' e g;rw[ay]at g
  by_cases hi:i<ρ'.length
  ·rw[LS hi]at e;rw[LS (b.sr.len▸hi)]at g;have g':ak H' i=some o':=by rw[ay];exact g
   exact(a.sr.rel i q' o' e g').ext0 ext (λ_ l=>.inl (.inr l)) (List.prefix_append _ _) (λa m=>nO a ⟨i,q',o',e,g',m⟩)
  ·have hi':i=ρ'.length:=by
    have:=(LE.mp e).1;simp at this;omega
   subst hi';rw[LO]at e;rw[b.sr.len,LO]at g;cases e;cases g;exact hr
 ·have old:∀i q' o' a,(ρ'++[q])[i]? = some q'->ak (H'++[o]) i=some o'->a∈aI o' q'->(ρ'[i]? = some q'/\ak H' i=some o')\/(i=ρ'.length/\a∈aI o q):=by
   intro i q' o' a e g m;rw[ay]at g
   by_cases hi:i<ρ'.length
   ·rw[LS hi]at e;rw[LS (b.sr.len▸hi)]at g;exact .inl ⟨e,by rw[ay];exact g⟩
   ·have hi':i=ρ'.length:=by
     have:=(LE.mp e).1;simp at this;omega
    subst hi';rw[LO]at e;rw[b.sr.len,LO]at g;cases e;cases g;exact .inr ⟨rfl,m⟩
  intro i j q1 r1 o1 o2 a e1 g1 e2 g2 m1 m2;rcases old i q1 o1 a e1 g1 m1 with ⟨e1',g1'⟩|⟨hi,n1⟩<;>rcases old j r1 o2 a e2 g2 m2 with ⟨e2',g2'⟩|⟨hj,n2⟩
  ·exact b.sr.apart i j q1 r1 o1 o2 a e1' g1' e2' g2' m1 m2
  ·exact absurd (hq a n2) (nO a ⟨i,q1,o1,e1',g1',m1⟩)
  ·exact absurd (hq a n1) (nO a ⟨j,r1,o2,e2',g2',m2⟩)
  ·exact hi.trans hj.symm
 ·intro x w;rcases(oa x).mp w with w|m
  ·exact b.sr.disj x w
  ·exact λf=>hF x f (hq x m)
 ·exact b.sr.base
 ·intro x w;rcases w with f|w
  ·exact b.sr.above x (.inl f)
  ·rcases(oa x).mp w with w|m
   ·exact b.sr.above x (.inr w)
   ·exact a.sr.above x (.inl (.inr (hq x m)))
 ·rcases w with f|w
  ·exact .inl (.inl f)
  ·rcases(oa x).mp w with w|m
   ·exact b.ext.grow x (.inr w)
   ·exact .inr (hL x (hq x m))
end KAft_shedOwn
end
theorem Aft.shedOwn{G F M L ρ ρ' H H' s s' s'' s1 q o}:Aft.shedOwn_P G F M L ρ ρ' H H' s s' s'' s1 q o:=cN (p:=D5 Aft.shedOwn_P) KAft_shedOwn.T (G,F,M,L,ρ,ρ',H,H',s,s',s'',s1,q,o)
variable{G:Cx}
variable{F M L:Av}{A:Around}{ρ ρ' ρ0:List (Addr × Addr)}{H H' H'' H0:Hp}{s s' s1 s0:Shared}{h h':Heap}
section
variable{sc:Scope}{nm:List Str}{env:Env}{σ σ':ai}{p q r:Pos}{x y:Str}{n:Nat}{I D C:Addr}
def Gh(sc:Scope)(nm:List Str)(i:Nat)(x:Str):Prop:=nm[i]? = some x/\sc.names.lookup x=some .local
noncomputable def HL(sc:Scope)(nm:List Str)(t:Tg)(e:Expr):Prop:=match t with
 |.one i=>∃x p,e = .Name x p/\Gh sc nm i x
 |.two i j=>∃x p y q k r,e = .Tuple [.Name x p,.Name y q] k r/\Gh sc nm i x/\Gh sc nm j y
structure EN(G:Cx)(F:Av)(A:Around)(sc:Scope)(nm:List Str)(env:Env)(ρ:List (Addr × Addr))(H:Hp)(s:Shared)(σ':ai)(s':Shared):Prop where
 aft:Aft G F (λa=>a=env.locals) ρ H s ρ H s'
 inv:Inv G F A sc nm env ρ H σ' s'
theorem mQ{V0:V}{v:Value}{i:Nat}{p:Pos}{Q:Unit->Shared->Prop}{E:Value->Shared->Prop}(I:Inv G F A sc nm env ρ H σ s)(h:Gh sc nm i x)(hn:nm.Nodup)(r:TRel G ρ (F.or (aj ρ H)) s.heap V0 v)
  (k:∀s',Aft G F (λa=>a=env.locals) ρ H s ρ H s'->Lft G F A sc nm env ρ H σ s ρ H (ao σ i V0) s'->Q () s'):wpAny (Md G) A (assign (.Name x p) env v) Q E s:=by
 rw[arm_assign_Name];exact wpAny_bind (wpAny_standAt (wpAny_bindName (wpAny_mono (vQ I h.1 h.2 hn r) (λ_ s1 L=>k s1 L.1 L.2) λ_ _ w=>w)))
theorem qx{t:Tg}{target:Expr}{V0:V}{v:Value}{E:Value->Shared->Prop}(hh:A.handled=none)(I:Inv G F A sc nm env ρ H σ s)(hT:HL sc nm t target)(hn:nm.Nodup)(r:TRel G ρ (F.or (aj ρ H)) s.heap V0 v)(hb:bN t V0 σ=some σ') :
  wpAny (Md G) A (assign target env v) (λ_ s'=>EN G F A sc nm env ρ H s σ' s') E s:=by
 cases t with
 |one i=>
  obtain⟨x,p,rfl,h⟩:=hT;cases hb;exact mQ I h hn r λ_ a L=>⟨a,Lft.inv I L⟩
 |two i j=>
  obtain⟨x,p,y,q,k,r',rfl,h1,h2⟩:=hT;refine wT (d:=none) (f:=λxs=>pS xs (λa b=>some (ao (ao σ i a) j b)) none) (P:=λv o=>o=some σ'->wpAny (Md G) A (assign (.Tuple [.Name x p,.Name y q] k r') env v) (λ_ s'=>EN G F A sc nm env ρ H s σ' s') E s) r (λw=>(by cases w)) (λxs ta vs m _ _ g l=>?_) hb;refine e2 (d:=none) (P:=λxs o=>RelL G (F.or (aj ρ H)) s.heap xs vs->o=some σ'->_) (λ_ w=>(by cases w)) (λa b l hb=>?_) l;cases hb;obtain⟨u,_,rfl,ra,w,_,rfl,rb,rfl⟩:=(show ∃u us,vs=u::us/\_/\∃w ws,us=w::ws/\_/\ws=[]from l);refine wpAny_assign_Tuple hh (items:=[u,w].toArray) ⟨_,g,rfl,m,rfl⟩ rfl rfl λh' hx=>?_;have a0:Aft G F al ρ H s ρ H {s with heap:=h'}:=.keeps I.sr ⟨h',s.toks,rfl⟩ λb o e=>hx b o (L4 (Heap.lt_size e)) e
  have I0:=I.aft a0;exact assignInOrder_cons (mQ I0 h1 hn (aF (a0.rel (λ_ m=>m.elim) ra)) λs2 a1 L1=>assignInOrder_cons (mQ (Lft.inv I0 L1) h2 hn (aF (L1.aft.rel (λ_ m=>I0.ev.meF _ m) (a0.rel (λ_ m=>m.elim) rb))) λs3 a2 L2=>wpAny_pure ⟨(a0.weak λ_ w=>w.elim).trans (a1.trans a2),Lft.inv (Lft.inv I0 L1) L2⟩))
def CR(G:Cx)(F2:Av)(ρ0:List (Addr × Addr))(H0:Hp)(s0:Shared)(C D:Addr)(own:Bool)(vs:List V)(H':Hp)(r:Result)(s':Shared):Prop:=
 r = .ok .next/\∃ρ' b H'',mk own vs H' = .ok b H''/\Aft G F2 (λx=>x=C) ρ0 H0 s0 ρ' H'' s'/\TRel G ρ' (F2.or (aj ρ' H'')) s'.heap b (.ref D)/\∃m,s'.heap.Ns C m
theorem wd{F2:Av}{own:Bool}{vs:List V}{us:List Value}{m:Nat}(a:Aft G (F2.or λx=>x=I\/x=D) (λx=>x=C\/(x=I\/x=D)) ρ0 H0 s1 ρ H s)(sm:Same s0 s1)(k:∀b o,s0.heap.get? b=some o->s1.heap.get? b=some o)
  (hL:∀x,(x=I\/x=D)->s0.heap.get? x=none) (hF:∀a,F2 a->¬ (a=I\/a=D)) (hID:D≠I) (sm':Same s s') (k':∀b o,¬b=I->s.heap.get? b=some o->s'.heap.get? b=some o)
  (hz:vs.length<=aq) (g:s.heap.get? D=some (bD us m)) (l:RelL G ((F2.or λx=>x=I\/x=D).or (aj ρ H)) s.heap vs us) :
  ∃ρ' b H'',mk own vs H = .ok b H''/\Aft G F2 (λx=>x=C) ρ0 H0 s0 ρ' H'' s'/\TRel G ρ' (F2.or (aj ρ' H'')) s'.heap b (.ref D):=by
 have kk:∀b o,¬ (b=I\/b=D)->s.heap.get? b=some o->s'.heap.get? b=some o:=λb o n e=>k' b o (λw=>n (.inl w)) e;have gD:=k' D _ hID g;have nD:¬ (F2.or (aj ρ H)) D:=λw=>w.elim (λf=>hF D f (.inr rfl)) λw=>a.sr.disj D w (.inr (.inr rfl))
 cases own with
 |false=>
  refine⟨ρ,.lst vs,H,rfl,a.shed2 sm k hL sm' kk,?_⟩;show Rel _ _ _ _ _;show _/\∃a vs n,_;exact⟨hz,D,us,m,rfl,nD,gD,RelL.ext0 G (M:=λx=>x=I\/x=D) ⟨λb o e n=>kk b o n e,λa w=>.inl (cb (λ_ f=>.inl f) (λ_ w=>w) a w)⟩ (λ_ l=>.inl (.inr l)) l⟩
 |true=>
  refine⟨ρ++[(D,0)],.obj H.length,H++[.lst vs],rfl,a.shedOwn sm k hL sm' kk (λa m=>?_) hF ?_,(D,0),by rw[<-a.sr.len];exact LO,rfl⟩
  ·replace m:=LJ.mp m
   exact .inr m
  ·refine⟨hz,us,m,gD,RelL.ext0 G (M:=λx=>x=I\/x=D) ⟨λb o e n=>kk b o n e,λx w=>.inl ?_⟩ (λ_ l=>.inl (.inr l)) l⟩;rcases w with f|w
   ·exact .inl (.inl f)
   ·rcases(dX a.sr.len).mp w with w|m
    ·exact .inr w
    ·replace m:=LJ.mp m
     exact .inl (.inr (.inr m))
end
end J.Internal
namespace J.Internal
variable{G:Cx}
variable{F:Av}{ρ:List (Addr × Addr)}{H H' H'':Hp}{h:Heap}
section
variable{sc:Scope}{nm:List Str}{env:Env}{σ σ':ai}{q r:Pos}{x y:Str}
noncomputable def j5(c:ai->Hp->Out Bool)(f:ai->Hp->Out V)(t:Tg)(σ:ai)(v:V)(H:Hp):Out (Option V):=match bN t v σ with
 |some σ'=>(c σ' H).vb λb H'=>match b with
  |true=>(f σ' H').vb λr H''=>.ok (some r) H''
  |false=>.ok none H'
 |none=>.bad
theorem qy{g:V->Hp->Out (Option V)}{x:V}{xs vs:List V}{H H':Hp}(e:aE g (x::xs) H = .ok vs H'):∃r H1 rs,g x H = .ok r H1/\aE g xs H1 = .ok rs H'/\match r with
  |some v=>v.isObj=false/\vs=v::rs
  |none=>vs=rs:=by
 rw[gG]at e
 cases h1:g x H with
 |bad=>rw[h1]at e;cases e
 |exc _=>rw[h1]at e;cases e
 |ok r H1=>
  rw[h1]at e;dsimp only[Out.vb]at e
  cases h2:aE g xs H1 with
  |bad=>rw[h2]at e;cases e
  |exc _=>rw[h2]at e;cases e
  |ok rs H2=>
   rw[h2]at e;dsimp only at e
   cases r with
   |none=>cases e;exact⟨none,H1,vs,rfl,h2,rfl⟩
   |some v=>
    dsimp only at e
    cases hv:v.isObj with
    |true=>rw[hv]at e;cases e
    |false=>rw[hv]at e;cases e;exact⟨some v,H1,rs,rfl,h2,hv,rfl⟩
theorem zc{c:ai->Hp->Out Bool}{f:ai->Hp->Out V}{t:Tg}{v:V}{H H1:Hp}{r:Option V}(e:j5 c f t σ v H = .ok r H1):∃σ',bN t v σ=some σ'/\∃b Hc,c σ' H = .ok b Hc/\match b with
  |true=>∃y,f σ' Hc = .ok y H1/\r=some y
  |false=>r=none/\H1=Hc:=by
 unfold j5 at e
 cases h1:bN t v σ with
 |none=>rw[h1]at e;cases e
 |some σ'=>
  rw[h1]at e;dsimp only at e
  cases h2:c σ' H with
  |bad=>rw[h2]at e;cases e
  |exc _=>rw[h2]at e;cases e
  |ok b Hc=>
   rw[h2]at e;dsimp only[Out.vb]at e
   cases b with
   |false=>cases e;exact⟨σ',rfl,false,_,h2,rfl,rfl⟩
   |true=>
    dsimp only at e
    cases h3:f σ' Hc with
    |bad=>rw[h3]at e;cases e
    |exc _=>rw[h3]at e;cases e
    |ok y H2=>rw[h3]at e;cases e;exact⟨σ',rfl,true,Hc,h2,y,h3,rfl⟩
theorem EnvR.less(x:EnvR G F ρ H sc nm env σ' h)(hs:∀i V,aV σ i=some V->aV σ' i=some V):EnvR G F ρ H sc nm env σ h:=by
 refine{x with loc:=?_,cel:=?_}
 ·obtain⟨m,e,q⟩:=x.loc;exact⟨m,e,λi V y e1=>q i V y (hs i V e1)⟩
 ·exact λi V y e1=>x.cel i V y (hs i V e1)
end
end J.Internal
namespace J.Internal
noncomputable section
def dv(G:Cx)(F2:Av)(A:Around)(ρ0:List (Addr × Addr))(H0:Hp)(s1:Shared)(s0:Shared)(Z:Option (Option Addr)->Prop)(sc:Scope)(nm:List Str)(env:Env)(σ:ai)(pos:Pos)(I:Addr)(D:Addr)(C:Addr)(own:Bool)(t:Tg)(target:Expr)(elt:Expr)(iter:Expr)(ifs:List Expr)(scope:Scope)(c:ai->Hp->Out Bool)(f:ai->Hp->Out V)(xs:List V)(fp:List Addr)(P:Nat->Value->Prop)(St:Nat->Heap->Prop):Prop:=
 ∀(hh:A.handled=none)(ht:HL sc nm t target)(hn:nm.Nodup)(hc:ST G (F2.or λx=>x=I\/x=D) A sc nm env Z c (forIn ifs true λc r=>if r=true then do let ok <-isTrue c env (eval c env);pure (ForInStep.yield ok)else pure (ForInStep.yield r)))(hb:SE G (F2.or λx=>x=I\/x=D) A sc nm env Z f (eval elt env))(W:Walks G.p G.w A I fp [I] xs.length P St)(hfi:∀i h,St i h->∃o vs T,h.get? I=some o/\o.cls = .type T/\o.data = .fields vs/\bP T=false)(hel:∀i v,i<xs.length->P i v->∃x,xs[i]? = some x/\Rel G ((F2.or λx=>x=I\/x=D).or (aj ρ0 H0)) s1.heap x v)(sm:Same s0 s1)(k0:∀b o,s0.heap.get? b=some o->s1.heap.get? b=some o)(hL:∀x,(x=I\/x=D)->s0.heap.get? x=none)(hF2:∀a,F2 a->¬ (a=I\/a=D))(hID:D≠I)(hC:env.locals=C)(hMe:∀a,Me env a->F2 a)(hz:xs.length<=aq)(hcl:∀v σ',bN t v σ=some σ'->∀i V,aV σ i=some V->aV σ' i=some V),∀k i,i+k=xs.length->∀{ρ H s us m acc vs H'},Inv G (F2.or λx=>x=I\/x=D) A sc nm env ρ H σ s->Aft G (F2.or λx=>x=I\/x=D) (λx=>x=C\/(x=I\/x=D)) ρ0 H0 s1 ρ H s->St i s.heap->
   (∀b∈fp,b=I\/(¬ ((F2.or λx=>x=I\/x=D).or (aj ρ H)) b/\∃o,s.heap.get? b=some o))->s.heap.get? D=some (bD us m)->RelL G ((F2.or λx=>x=I\/x=D).or (aj ρ H)) s.heap acc us->acc.length<=i->
   aE (j5 c f t σ) (xs.drop i) H = .ok vs H'->
   az (Md G) A (.compLoop (.ListComp elt [⟨target,iter,ifs,0⟩] scope pos) 0 (.ref I) (.ref D) env) (CR G F2 ρ0 H0 s0 C D own (acc++vs) H') s
namespace Kcomp_core
def z:=ep (Hk dv)
def G:=z.1
def F2:=z.2.1
def A:=z.2.2.1
def sc:=z.2.2.2.2.2.2.2.2.1
def nm:=z.2.2.2.2.2.2.2.2.2.1
def env:=z.2.2.2.2.2.2.2.2.2.2.1
def σ:=z.2.2.2.2.2.2.2.2.2.2.2.1
def I:=z.2.2.2.2.2.2.2.2.2.2.2.2.2.1
def D:=z.2.2.2.2.2.2.2.2.2.2.2.2.2.2.1
def C:=z.2.2.2.2.2.2.2.2.2.2.2.2.2.2.2.1
def own:=z.2.2.2.2.2.2.2.2.2.2.2.2.2.2.2.2.1
def f:=z.2.2.2.2.2.2.2.2.2.2.2.2.2.2.2.2.2.2.2.2.2.2.2.2.1
def xs:=z.2.2.2.2.2.2.2.2.2.2.2.2.2.2.2.2.2.2.2.2.2.2.2.2.2.1
def fp:=z.2.2.2.2.2.2.2.2.2.2.2.2.2.2.2.2.2.2.2.2.2.2.2.2.2.2.1
theorem T:dv G F2 A z.2.2.2.1 z.2.2.2.2.1 z.2.2.2.2.2.1 z.2.2.2.2.2.2.1 z.2.2.2.2.2.2.2.1 sc nm env σ z.2.2.2.2.2.2.2.2.2.2.2.2.1 I D C own z.2.2.2.2.2.2.2.2.2.2.2.2.2.2.2.2.2.1 z.2.2.2.2.2.2.2.2.2.2.2.2.2.2.2.2.2.2.1 z.2.2.2.2.2.2.2.2.2.2.2.2.2.2.2.2.2.2.2.1 z.2.2.2.2.2.2.2.2.2.2.2.2.2.2.2.2.2.2.2.2.1 z.2.2.2.2.2.2.2.2.2.2.2.2.2.2.2.2.2.2.2.2.2.1 z.2.2.2.2.2.2.2.2.2.2.2.2.2.2.2.2.2.2.2.2.2.2.1 z.2.2.2.2.2.2.2.2.2.2.2.2.2.2.2.2.2.2.2.2.2.2.2.1 f xs fp z.2.2.2.2.2.2.2.2.2.2.2.2.2.2.2.2.2.2.2.2.2.2.2.2.2.2.2.1 z.2.2.2.2.2.2.2.2.2.2.2.2.2.2.2.2.2.2.2.2.2.2.2.2.2.2.2.2:=by
 intro hh ht hn hc hb W hfi hel sm k0 hL hF2 hID hC hMe hz hcl;have mM:∀x,(λx=>x=C\/(x=I\/x=D)) x->(F2.or λx=>x=I\/x=D) x:=λx m=>m.imp (λw=>by rw[w,<-hC];exact hMe _ (.inl rfl)) λw=>w;have CI:C≠I:=λw=>hF2 C (hC▸hMe _ (.inl rfl)) (.inl w);have CD:C≠D:=λw=>hF2 C (hC▸hMe _ (.inl rfl)) (.inr w);intro k
 induction k with
 |zero=>
  intro i hi ρ H s us m acc vs H' Iv a st hfp gD lD hl e;rw[List.drop_of_length_le (show xs.length<=i from Ma hi.symm)]at e;cases e;refine rY (ah (W.done s _ _ (by rw[show xs.length=i from hi.symm];exact st) λh' tk kk=>?_));have kk':∀b o,¬b=I->s.heap.get? b=some o->h'.get? b=some o:=λb o n e=>kk b o (by simp[n]) e;rw[LW];obtain⟨ρ',b,H'',e1,e2,e3⟩:=wd (own:=own) a sm k0 hL hF2 hID ⟨h',tk,rfl⟩ kk' (by omega) gD lD;obtain⟨mm,⟨o,es,ep,g,r⟩,_⟩:=Iv.ev.loc;exact⟨rfl,ρ',b,H'',e1,e2,e3,mm,o,es,ep,kk' _ _ CI (hC▸g),r⟩
 |succ k ih=>
  intro i hi ρ H s us m acc vs H' Iv a st hfp gD lD hl e;have hlt:i<xs.length:=hi▸Nat.lt_add_of_pos_right (Ms k);rw[List.drop_eq_getElem_cons hlt]at e;obtain⟨r,H1,rs,e1,hcL,er⟩:=qy e;generalize hx:xs[i]=x0 at e1;have hx0:xs[i]? = some x0:=by rw[LH hlt,hx]
  obtain⟨σ',hbt,b1,Hc,hc1,eb⟩:=zc e1;refine rY (ah (W.item i s _ _ hlt st λv h' tk hP st' kk=>?_));dsimp only;obtain⟨o,fvs,T,gI,cI,dI,oT⟩:=hfi _ _ st';have kk':∀b o,b≠I->s.heap.get? b=some o->h'.get? b=some o:=λb o n e=>kk b o (by simp[n]) e;have a2:Aft G (F2.or λx=>x=I\/x=D) (λa=>a=I) ρ H s ρ H {s with heap:=h',toks:=tk}:=Aft.at Iv.sr ⟨h',tk,rfl⟩ (.inr (.inl rfl)) kk' gI;obtain⟨o0,vs0,T0,gI0,cI0,dI0,_⟩:=hfi _ _ st;have I2:Inv G (F2.or λx=>x=I\/x=D) A sc nm env ρ H σ {s with heap:=h',toks:=tk}:=Iv.at1 ⟨h',tk,rfl⟩ (.inr (.inl rfl)) (λa m w=>hF2 a (hMe a m) (.inl w)) kk' gI0 (λ_ _ w=>by rw[dI0]at w;cases w) gI;refine ah (oK gI cI dI oT ?_);obtain⟨x1,ex,rx⟩:=hel i v hlt hP;rw[hx0]at ex;cases ex;have ra:=(a.trans (a2.weak λ_ w=>.inr (.inl w))).rel mM rx;refine ah (wpAny_mono (qx hh I2 ht hn (aF ra) hbt) (λ_ s3 L3=>?_) λ_ _ w=>w);have I3:=L3.inv;have a3:=L3.aft;rw[hC]at a3;have hcc:=hc I3;rw[hc1]at hcc;refine ag (show wpS _ _ _ _ _ _ from hcc) (λok s4 q=>?_) λ_ _ w=>w.elim;obtain⟨ρ4,a4,rfl⟩:=q;have I4:=I3.aft a4;have b4:Aft G (F2.or λx=>x=I\/x=D) (λx=>x=C) ρ H {s with heap:=h',toks:=tk} ρ4 Hc s4:=a3.trans (a4.weak λ_ w=>w.elim)
  have keepI:∀{s9:Shared}{ρ9 H9},Aft G (F2.or λx=>x=I\/x=D) (λx=>x=C\/x=D) ρ H {s with heap:=h',toks:=tk} ρ9 H9 s9->z.2.2.2.2.2.2.2.2.2.2.2.2.2.2.2.2.2.2.2.2.2.2.2.2.2.2.2.2 (i+1) s9.heap/\(∀b∈fp,b=I\/(¬ ((F2.or λx=>x=I\/x=D).or (aj ρ9 H9)) b/\∃o,s9.heap.get? b=some o)):=by
   exact λaf=>lS W st' hfp kk' af (.inr (.inl rfl)) (λm=>m.elim (λw=>CI w.symm) λw=>hID w.symm) gI dI
  have keepD:∀{s9:Shared}{ρ9 H9},Aft G (F2.or λx=>x=I\/x=D) (λx=>x=C) ρ H {s with heap:=h',toks:=tk} ρ9 H9 s9->s9.heap.get? D=some (bD us m):=by
   intro s9 ρ9 H9 af;obtain⟨sl,e2,q⟩:=af.frm D _ (.inr (.inr rfl)) (kk' D _ hID gD) λw=>CD w.symm;rw[e2,q λ_ _ w=>by cases w]
  cases ok with
  |false=>
   dsimp only at eb ⊢;obtain⟨rfl,rfl⟩:=eb;dsimp only at er;subst er;obtain⟨i1,i2⟩:=keepI (b4.weak λ_ w=>.inl w);have a5:=(a.trans (a2.weak λ_ w=>.inr (.inl w))).trans (b4.weak λ_ w=>.inl w);have I5:Inv G (F2.or λx=>x=I\/x=D) A sc nm env ρ4 H1 σ s4:=⟨I4.sr,I4.ev.less (hcl _ _ hbt),I4.st,I4.ft⟩;exact ih (i+1) ((Nat.succ_add i k).trans hi) I5 a5 i1 i2 (keepD b4) (b4.relL (λx w=>by rw[w];exact mM C (.inl rfl)) (a2.relL (λx w=>.inr (.inl w)) lD)) (by omega) hcL
  |true=>
   dsimp only at eb ⊢;obtain⟨y,e3,rfl⟩:=eb;dsimp only at er;obtain⟨hy,rfl⟩:=er;have hbb:=hb I4;rw[e3]at hbb;refine ag (show wpS _ _ _ _ _ _ from hbb) (λx' s5 q=>?_) λ_ _ w=>w.elim;obtain⟨ρ5,a5,r5⟩:=q;have I5:=I4.aft a5;have b5:=b4.trans (a5.weak λ_ w=>w.elim);have g5:=keepD b5;have l5:=b5.relL (λx w=>by rw[w];exact mM C (.inl rfl)) (a2.relL (λx w=>.inr (.inl w)) lD);have hi5:s5.heap.IsList D us.toArray:=aY g5;have hsz:us.length<=sizeLine:=by rw[RelL.length l5];exact LB (show acc.length<=aq by omega) (by decide)
   refine ah (call_meets PySem.F.slot_list_append hi5.typeIs PySem.F.entry_list_append (PySem.F.args_list_append_2 _ _) (list_append D us.toArray m x' (by simpa using hsz)) ⟨g5,?_⟩);have u:=da (f:=Obj.mapSeq λx_1=>x_1.push x') g5 rfl;have a6:Aft G (F2.or λx=>x=I\/x=D) (λa=>a=D) ρ5 H1 s5 ρ5 H1 {s5 with heap:=s5.heap.update D (Obj.mapSeq λx_1=>x_1.push x')}:=Aft.frame I5.sr ⟨_,s5.toks,rfl⟩ (.inr (.inr rfl)) (λb n=>eX n) u;have b6:=(b5.weak (M':=λx=>x=C\/x=D) λ_ w=>.inl w).trans (a6.weak λ_ w=>.inr w);obtain⟨i1,i2⟩:=keepI b6;have a7:=(a.trans (a2.weak λ_ w=>.inr (.inl w))).trans (b6.weak (M':=λx=>x=C\/(x=I\/x=D)) λ_ w=>w.imp_right .inr);have mD:∀x,x=D->(F2.or λx=>x=I\/x=D) x:=λx w=>.inr (.inr w);have I5':Inv G (F2.or λx=>x=I\/x=D) A sc nm env ρ5 H1 σ s5:=⟨I5.sr,I5.ev.less (hcl _ _ hbt),I5.st,I5.ft⟩;have I6:Inv G (F2.or λx=>x=I\/x=D) A sc nm env ρ5 H1 σ {s5 with heap:=s5.heap.update D (Obj.mapSeq λx_1=>x_1.push x')}:=I5'.at1 ⟨_,s5.toks,rfl⟩ (.inr (.inr rfl)) (λa m w=>hF2 a (hMe a m) (.inr w)) (λb o n e=>(eX n).trans e) g5 (λ_ _ w=>(by cases w)) u
   have l6:RelL G ((F2.or λx=>x=I\/x=D).or (aj ρ5 H1)) (s5.heap.update D (Obj.mapSeq λx_1=>x_1.push x')) (acc++[y]) (us++[x']):=
    RelL.append (a6.relL mD l5) (RelL.one (a6.rel mD (dZ hy r5)))
   have g6:(s5.heap.update D (Obj.mapSeq λx_1=>x_1.push x')).get? D=some (bD (us++[x']) (m+1)):=u.trans (by simp[Obj.mapSeq]);have:=ih (i+1) ((Nat.succ_add i k).trans hi) I6 a7 i1 i2 g6 l6 (by simp;omega) hcL;rw[LG]at this;exact this
end Kcomp_core
end
theorem ua{G F2 A ρ0 H0 s1 s0 Z sc nm env σ pos I D C own t target elt iter ifs scope c f xs fp P St}:dv G F2 A ρ0 H0 s1 s0 Z sc nm env σ pos I D C own t target elt iter ifs scope c f xs fp P St:=cN (p:=Hk dv) Kcomp_core.T (G,F2,A,ρ0,H0,s1,s0,Z,sc,nm,env,σ,pos,I,D,C,own,t,target,elt,iter,ifs,scope,c,f,xs,fp,P,St)
variable{F L:Av}{h h':Heap}
noncomputable def Cv(l:ai):Nat->ai:=l.rec (λ_=>[]) λx r g n=>n.casesOn (none::r) λn=>x::g n
theorem mR{σ:ai}:∀{i j:Nat}{V:V},aV (Cv σ i) j=some V->j≠i/\aV σ j=some V:=by
 induction σ with
 |nil=>exact λh=>(by cases h)
 |cons x r ih=>
  intro i j V h
  cases i with
  |zero=>cases j with
   |zero=>cases h
   |succ j=>exact⟨Nat.succ_ne_zero j,h⟩
  |succ i=>cases j with
   |zero=>exact⟨(Nat.succ_ne_zero i).symm,h⟩
   |succ j=>exact⟨λe=>(ih h).1 (Nat.succ.inj e),(ih h).2⟩
theorem j6(σ:ai):∀(i:Nat)(v:V),ao (Cv σ i) i v=ao σ i v:=by
 induction σ with
 |nil=>exact λ_ _=>rfl
 |cons x r ih=>exact λi v=>Nat.casesOn i rfl λi=>congrArg (x::·) (ih i v)
theorem zd(σ:ai):∀{i j:Nat}(v:V),i≠j->ao (Cv σ j) i v=Cv (ao σ i v) j:=by
 induction σ with
 |nil=>exact λ_ _=>rfl
 |cons x r ih=>
  intro i j v h
  cases i with
  |zero=>cases j with
   |zero=>exact absurd rfl h
   |succ j=>rfl
  |succ i=>cases j with
   |zero=>rfl
   |succ j=>exact congrArg (x::·) (ih v λe=>h (congrArg Nat.succ e))
noncomputable def yB:Tg->ai->ai
 |.one i,σ=>Cv σ i
 |.two i j,σ=>Cv (Cv σ i) j
noncomputable def Tg.idx:Tg->List Nat
 |.one i=>[i]
 |.two i j=>[i,j]
theorem mS{t:Tg}{σ:ai}{k:Nat}{V:V}(e:aV (yB t σ) k=some V):k∉t.idx/\aV σ k=some V:=by
 cases t with
 |one i=>obtain⟨a,b⟩:=mR e;exact⟨by simpa[Tg.idx]using a,b⟩
 |two i j=>
  obtain⟨a,b⟩:=mR e;obtain⟨c,d⟩:=mR b;exact⟨by simp[Tg.idx,a,c],d⟩
theorem ze{i j:Nat}{σ:ai}(a b:V):ao (ao (yB (.two i j) σ) i a) j b=ao (ao σ i a) j b:=by
 by_cases h:i=j
 ·subst h;rw[yB,j6,j6]
 ·rw[yB,zd _ _ h,j6,j6]
theorem we{t:Tg}{σ:ai}(v:V):bN t v (yB t σ)=bN t v σ:=by
 cases t with
 |one i=>exact congrArg some (j6 σ i v)
 |two i j=>exact congrArg (λF=>v.onT (λxs=>pS xs F none) none) (funext λa=>funext λb=>congrArg some (ze a b))
theorem qz(τ:ai):∀(i k:Nat)(u V:J.Internal.V),k≠i->aV τ k=some V->aV (ao τ i u) k=some V:=by
 induction τ with
 |nil=>exact λ_ _ _ _ _ h=>(by cases h)
 |cons x r ih=>
  intro i k u V h
  cases i with
  |zero=>cases k with
   |zero=>exact absurd rfl h
   |succ k=>exact id
  |succ i=>cases k with
   |zero=>exact id
   |succ k=>exact ih i k u V λe=>h (congrArg Nat.succ e)
theorem wf{t:Tg}{σ σ':ai}{v:V}(e:bN t v (yB t σ)=some σ'):∀i V,aV (yB t σ) i=some V->aV σ' i=some V:=by
 intro k V g;have nk:=(mS g).1
 cases t with
 |one i=>cases e;exact qz _ _ _ _ _ (λw=>nk (w▸.head _)) g
 |two i j=>
  exact kT (d:=none) (f:=λxs=>pS xs (λa b=>some (ao (ao (yB (.two i j) σ) i a) j b)) none) (P:=λv o=>o=some σ'->aV σ' k=some V) (λw=>(by cases w))
   (λxs=>e2 (d:=none) (P:=λxs o=>o=some σ'->aV σ' k=some V) (λw=>(by cases w)) λa b w=>by
    cases w;exact qz _ _ _ _ _ (λw=>nk (w▸.tail _ (.head _))) (qz _ _ _ _ _ (λw=>nk (w▸.head _)) g)) e
section
variable{sc:Scope}{nm:List Str}{env:Env}{p r:Pos}{x y:Str}{n:Nat}
noncomputable def bq(env:Env)(l:List (Str × NameKind)):List (Str × Addr)->List (Str × Addr):=l.rec (λacc=>acc) λp _ g acc=>if p.2==.free then g ((p.1,(env.cells.lookup p.1).getD 0)::acc)else g acc
theorem mT{p:Str × NameKind}{r:List (Str × NameKind)}{acc:List (Str × Addr)}:bq env (p::r) acc=if p.2==.free then bq env r ((p.1,(env.cells.lookup p.1).getD 0)::acc)else bq env r acc:=rfl
theorem sk{scope:Scope}(hf:∀x∈scope.names,x.2 = .free->∃c,env.cells.lookup x.1=some c):closureFor scope env=pure (bq env scope.names []):=by
 have key:∀(l:List (Str × NameKind))(acc:List (Str × Addr)),(∀x∈l,x.2 = .free->∃c,env.cells.lookup x.1=some c)->
   (forIn l acc (λx cs=>(do
    if x.2==.free then
     let a <-cellOf env x.1
     pure (ForInStep.yield ((x.1,a)::cs))
    else pure (ForInStep.yield cs):Sem (ForInStep (List (Str × Addr))))))=pure (bq env l acc):=by
  intro l
  induction l with
  |nil=>intro acc _;rfl
  |cons x r ih=>
   intro acc h;rw[List.forIn_cons];obtain⟨x,k⟩:=x;rw[mT]
   by_cases hk:(k==NameKind.free)=true
   ·simp only[hk,if_true];obtain⟨c,hc⟩:=h _ LL (by simpa using hk);dsimp only at hc;unfold cellOf;rw[hc];exact ih _ λx hx=>h x (LK _ hx)
   ·simp only[hk];exact ih _ λx hx=>h x (LK _ hx)
 have:=key scope.names [] hf;exact(congrArg (·>>=λcs=>(pure cs:Sem (List (Str × Addr)))) this).trans rfl
theorem lT{l:List (Str × NameKind)}:∀{acc:List (Str × Addr)}{y:Str}{c:Addr},(∀x∈l,x.2 = .free->∃c,env.cells.lookup x.1=some c)->(y,c)∈bq env l acc->env.cells.lookup y=some c\/(y,c)∈acc:=by
 induction l with
 |nil=>exact λ_ h=>.inr h
 |cons p r ih=>
  intro acc y c hf h;have hr:=λx hx=>hf x (LK _ hx);rw[mT]at h
  by_cases hk:(p.2==NameKind.free)=true
  ·rw[if_pos hk]at h;refine(ih hr h).elim .inl λw=>(LI.mp w).elim (λe=>.inl ?_) .inr;obtain⟨rfl,rfl⟩:=Prod.mk.inj e;obtain⟨c',hc'⟩:=hf p (.head _) (by simpa using hk);rw[hc'];rfl
  ·rw[if_neg hk]at h;exact ih hr h
theorem ub{l:List (Str × NameKind)}:∀{acc:List (Str × Addr)}{y:Str},((y,NameKind.free)∈l\/(acc.lookup y).isSome)->((bq env l acc).lookup y).isSome=true:=by
 induction l with
 |nil=>exact λh=>h.elim (λh=>(by cases h)) id
 |cons p r ih=>
  intro acc y h;rw[mT]
  by_cases hk:(p.2==NameKind.free)=true
  ·rw[if_pos hk];refine ih ?_
   by_cases w:(y==p.1)=true
   ·exact .inr (by rw[List.lookup_cons,w];rfl)
   ·refine h.imp (λh=>(LI.mp h).resolve_left λe=>w (by rw[<-e];exact beq_self_eq_true y)) λh=>?_;rw[List.lookup_cons,Bool.eq_false_iff.mpr w];exact h
  ·rw[if_neg hk];exact ih (h.imp_left λh=>(LI.mp h).resolve_left λe=>hk (by rw[<-e];rfl))
theorem qA{g:Str × NameKind->Str × NameKind}(hg:∀p,(g p).1=p.1){l:List (Str × NameKind)}{x:Str}{k:NameKind}:l.lookup x=some k->(l.map g).lookup x=some (g (x,k)).2:=by
 induction l with
 |nil=>exact λh=>(by cases h)
 |cons p r ih=>
  intro h;rw[List.map_cons,List.lookup_cons,hg];rw[List.lookup_cons]at h
  cases hx:x==p.1 with
  |true=>
   rw[hx]at h;exact congrArg some (congrArg (λp=>(g p).2) (Prod.ext (eq_of_beq hx).symm (LM h)))
  |false=>rw[hx]at h;exact ih h
theorem j7{env:Env}{names:List (Str × NameKind)}{x:Str}{k:NameKind}(h:names.lookup x=some k) :
  (names.map λ(n,k)=>if (k==NameKind.free&&env.scope.kind==.function&&env.kindOf n==some .cell)then(n,NameKind.cell)else(n,k)).lookup x=some k\/
  (k = .free/\(names.map λ(n,k)=>if (k==NameKind.free&&env.scope.kind==.function&&env.kindOf n==some .cell)then(n,NameKind.cell)else(n,k)).lookup x=some .cell):=by
 rw[qA (λp=>by dsimp only;split<;>rfl) h];dsimp only
 by_cases hc:(k==NameKind.free&&env.scope.kind==.function&&env.kindOf x==some .cell)=true
 ·rw[if_pos hc];exact .inr ⟨gF hc λe _ _=>by simpa using e,rfl⟩
 ·rw[if_neg hc];exact .inl rfl
structure DT(sc:Scope)(nm:List Str)(t:Tg)(target:Expr)(scope:Scope):Prop where
 kind:scope.kind = .function
 nocell:∀x∈scope.names,x.2≠.cell
 names:∀x∈scope.names,x.2 = .local->scope.names.lookup x.1=some .local
 free:∀x∈scope.names,x.2 = .free->sc.names.lookup x.1=some .cell\/sc.names.lookup x.1=some .free
 loc:∀i y,nm[i]? = some y->scope.names.lookup y=some .local->i∈t.idx
 tg:HL scope nm t target
theorem Ext.news{X:Av}(k:∀b o,h.get? b=some o->h'.get? b=some o)(hL:∀x,L x->h.get? x=none):Ext al (F.or X) ((F.or L).or X) h h':=
 ⟨λb o e _=>k b o e,λb o e=>⟨o,k b o e⟩,λa w=>by
  rcases w with (w|w)|w
  ·exact .inl (.inl w)
  ·exact .inr (hL a w)
  ·exact .inl (.inr w)⟩
end
end J.Internal
namespace J.Internal
noncomputable section
def ec(G:Cx)(F:Av)(L:Av)(A:Around)(ρ:List (Addr × Addr))(H:Hp)(s:Shared)(h':Heap)(sc:Scope)(nm:List Str)(env:Env)(σ:ai)(C:Addr)(t:Tg)(target:Expr)(scope:Scope):Prop:=
 ∀(cs:DT sc nm t target scope)(Iv:Inv G F A sc nm env ρ H σ s)(k:∀b o,s.heap.get? b=some o->h'.get? b=some o)(hL:∀x,L x->s.heap.get? x=none)(hLt:∀x,L x->∃o,h'.get? x=some o)(hC:L C)(hns:h'.Ns C λ_=>none),Inv G (F.or L) A scope nm (compEnvC scope (bq env scope.names []) C env) ρ H (yB t σ) {s with heap:=h'}
namespace Kcomp_env
def z:=ep (BO ec)
def G:=z.1
def F:=z.2.1
def L:=z.2.2.1
def ρ:=z.2.2.2.2.1
def H:=z.2.2.2.2.2.1
def s:=z.2.2.2.2.2.2.1
def h':=z.2.2.2.2.2.2.2.1
def env:=z.2.2.2.2.2.2.2.2.2.2.1
def C:=z.2.2.2.2.2.2.2.2.2.2.2.2.1
def scope:=z.2.2.2.2.2.2.2.2.2.2.2.2.2.2.2
theorem T:ec G F L z.2.2.2.1 ρ H s h' z.2.2.2.2.2.2.2.2.1 z.2.2.2.2.2.2.2.2.2.1 env z.2.2.2.2.2.2.2.2.2.2.2.1 C z.2.2.2.2.2.2.2.2.2.2.2.2.2.1 z.2.2.2.2.2.2.2.2.2.2.2.2.2.2.1 scope:=by
 intro cs Iv k hL hLt hC hns
 have hfr:∀x∈scope.names,x.2 = .free->∃c,env.cells.lookup x.1=some c:=λx hx hk=>by
  obtain⟨c,v,e,_⟩:=Iv.ev.cel0 x.1 (cs.free x hx hk);exact⟨c,e⟩
 have cm:∀y c,(bq env scope.names []).lookup y=some c->env.cells.lookup y=some c:=λy c e=>(lT hfr (mem_of_lookup e)).elim (λw=>w) λw=>by simp at w
 have ch:∀y,scope.names.lookup y=some .free->∃c,(bq env scope.names []).lookup y=some c/\env.cells.lookup y=some c:=λy e=>by
  have:=ub (env:=env) (acc:=[]) (.inl (mem_of_lookup e));obtain⟨c,hc⟩:=Option.isSome_iff_exists.mp this;exact⟨c,hc,cm y c hc⟩
 have nc:∀y,scope.names.lookup y≠some .cell:=λy e=>cs.nocell _ (mem_of_lookup e) rfl;have E:=Ext.news (F:=F) (X:=aj ρ H) k hL;have mv:∀V v,TRel G ρ (F.or (aj ρ H)) s.heap V v->TRel G ρ ((F.or L).or (aj ρ H)) h' V v:=λV v r=>r.ext E (λ_ m=>m.elim) (LP _);have sr:SR G (F.or L) ρ H h':=Iv.sr.touch (λa w=>w.imp_right (hL a)) (λb o e _=>k b o e) λb o e=>⟨o,k b o e⟩
 have nL:∀a,F a->a≠C:=λa f w=>by
  obtain⟨o,e⟩:=Iv.ft a f;rw[w,hL C hC]at e;cases e
 refine⟨sr,⟨cs.kind,Iv.ev.glob,Iv.ev.bui,λx kd e=>?_,.inr hC,λx c e=>.inl (Iv.ev.celF x c (cm x c e)),⟨_,hns,λi V y e1 e2 e3=>?_⟩,λi V y e1 e2 e3=>?_,λy e=>?_,λx y c e1 e2=>Iv.ev.apart x y c (cm x c e1) (cm y c e2),λx c e=>nL c (Iv.ev.celF x c (cm x c e))⟩,?_,?_⟩
 ·exact j7 e
 ·exact absurd (cs.loc i y e2 e3) (mS e1).1
 ·rcases e3 with e3|e3
  ·exact absurd e3 (nc y)
  ·obtain⟨c,h1,h2⟩:=ch y e3;obtain⟨c',v,h3,⟨o,g,d⟩,r⟩:=Iv.ev.cel i V y (mS e1).2 e2 (cs.free _ (mem_of_lookup e3) rfl);rw[h2]at h3;cases h3;exact⟨c,v,h1,⟨o,k _ _ g,d⟩,mv _ _ r⟩
 ·rcases e with e3|e3
  ·exact absurd e3 (nc y)
  ·obtain⟨c,h1,h2⟩:=ch y e3;obtain⟨c',v,h3,o,g,d⟩:=Iv.ev.cel0 y (cs.free _ (mem_of_lookup e3) rfl);rw[h2]at h3;cases h3;exact⟨c,v,h1,o,k _ _ g,d⟩
 ·have:Stk F z.2.2.2.1 h':=by
   obtain⟨l,e,q⟩:=Iv.st;refine⟨l,e,λen hen=>?_⟩;obtain⟨k1,L,o,es,ep,e1,f,g,d⟩:=q en hen;exact⟨k1,L,o,es,ep,e1,f,k _ _ g,d⟩
  exact this.wid
 ·exact λa w=>w.elim (λf=>let ⟨o,e⟩:=Iv.ft a f;⟨o,k a o e⟩) (hLt a)
end Kcomp_env
end
theorem wg{G F L A ρ H s h' sc nm env σ C t target scope}:ec G F L A ρ H s h' sc nm env σ C t target scope:=cN (p:=BO ec) Kcomp_env.T (G,F,L,A,ρ,H,s,h',sc,nm,env,σ,C,t,target,scope)
variable{G:Cx}
variable{F F' F2 M L:Av}{A:Around}{ρ ρ' ρ0:List (Addr × Addr)}{H H' H0:Hp}{s s' s1 s0:Shared}{h h':Heap}{Z:Option (Option Addr)->Prop}
section
variable{sc:Scope}{nm:List Str}{env:Env}{σ σ':ai}{pos q r:Pos}{x y z:Str}{n:Nat}{I D C:Addr}
theorem wh{c:ai->Hp->Out Bool}{f:ai->Hp->Out V}{t:Tg}:j5 c f t (yB t σ)=j5 c f t σ:=by
 funext v H
 unfold j5;rw[we]
noncomputable abbrev j8(ifs:List Expr)(env:Env):Sem Bool:=forIn ifs true λc r=>if r=true then do let ok <-isTrue c env (eval c env);pure (ForInStep.yield ok)else pure (ForInStep.yield r)
theorem uc{X:Av}{b:V}{xs:List V}{v:Value}{h:Heap}(r:TRel G ρ X h b v)(he:elems b=some xs):xs.length<=aq:=by
 cases b with
 |lst l=>cases he;exact(show _/\_ from r).1
 |tup l=>cases he;exact(show _/\_ from r).1
 |byt l=>cases he;rw[LF];exact(show _/\_ from r).1
 |str l=>cases he;rw[LF];exact(show _/\_ from r).1
 |dct l=>cases he;rw[LF];exact(show(_/\_)/\_ from r).1.1
 |rng lo st n=>cases he;rw[j0];exact(show _/\_ from r).1
 |_=>exact(by cases he)
theorem oM{own:Bool}{t:Tg}{target elt iter:Expr}{ifs:List Expr}{scope:Scope}{c:ai->Hp->Out Bool}{f:ai->Hp->Out V}{b:V}{xs vs:List V}{v:Value}{use:Option (Value->Sem Unit)}{Q:Value->Shared->Prop}{E:Value->Shared->Prop}
  (hh:A.handled=none) (cs:DT sc nm t target scope) (hn:nm.Nodup)
  (hc:∀F' C,ST G F' A scope nm (compEnvC scope (bq env scope.names []) C env) Z c (j8 ifs (compEnvC scope (bq env scope.names []) C env)))
  (hb:∀F' C,SE G F' A scope nm (compEnvC scope (bq env scope.names []) C env) Z f (eval elt (compEnvC scope (bq env scope.names []) C env)))
  (Iv:Inv G F A sc nm env ρ H σ s) (r:TRel G ρ (F.or (aj ρ H)) s.heap b v) (he:elems b=some xs) (hx:aE (j5 c f t σ) xs H = .ok vs H')
  (hpost:∀C D s',s.heap.get? C=none->CR G (F.or λx=>x=C) ρ H s C D own vs H' (.ok .next) s'->fC (Md G) A use Q E (.ref D) C (.ok .next) s') :
  wpS (Md G) A (pyIter v) (λit s₂=>wpS (Md G) A (newList []) (λacc s₃=>
   wpS (Md G) A (newFunctionEnv scope env.globals (bq env scope.names []) [] env.qual none .none (some env)) (λcenv s₄=>
    az (Md G) A (.compStart (.ListComp elt [⟨target,iter,ifs,0⟩] scope pos) 0 it acc {cenv with scope:=relabel scope env}) (fC (Md G) A use Q E acc cenv.locals) s₄) E s₃) E s₂) E s:=by
 have hz:xs.length<=aq:=uc r he;refine ah (mO hh Iv.sr Iv.ft r he λI h1 hI k1 hIt itr=>?_);refine ah (wpAny_newList ?_);have k2:∀b o,h1.get? b=some o->(h1.push {cls:=.type "list", data:=.seq ([]:List Value).toArray}).get? b=some o:=λb o e=>aA b o e;have gD:=Heap.get?_push_size (h:=h1) (o:={cls:=.type "list", data:=.seq ([]:List Value).toArray}) rfl;refine ah (wpAny_newFunctionEnv cs.nocell (by intro y hy;simp at hy) (λh3 hns hsb=>?_) cs.kind);dsimp only at hns hsb ⊢;generalize hH2:h1.push {cls:=.type "list", data:=.seq ([]:List Value).toArray}=h2 at hns hsb k2 gD ⊢
 have hCfr:h2.get? h2.objs.size=none:=by
  cases z:h2.get? h2.objs.size with
  |none=>rfl
  |some o=>exact absurd (Heap.lt_size z) (Mg _)
 have k3:∀b o,h2.get? b=some o->h3.get? b=some o:=λb o e=>(hsb.2 b (L4 (Heap.lt_size e))).trans (aA b o e);have hDC:h1.objs.size≠h2.objs.size:=by rw[<-hH2,Heap.size_push];omega
 have hID:h1.objs.size≠I:=λw=>by
  obtain⟨o,e⟩:=hIt;rw[<-w]at e;exact Mg _ (Heap.lt_size e)
 have hIC:h2.objs.size≠I:=λw=>by
  obtain⟨o,e⟩:=hIt;have:=k2 _ _ e;rw[<-w,hCfr]at this;cases this
 generalize hDD:h1.objs.size=D at *;generalize hCC:h2.objs.size=C at *;have kk:∀b o,s.heap.get? b=some o->h3.get? b=some o:=λb o e=>k3 _ _ (k2 _ _ (k1 _ _ e))
 have nD:s.heap.get? D=none:=by
  cases z:s.heap.get? D with
  |none=>rfl
  |some o=>have:=Heap.lt_size (k1 _ _ z);rw[<-hDD]at this;exact absurd this (Mg _)
 have nC:s.heap.get? C=none:=by
  cases z:s.heap.get? C with
  |none=>rfl
  |some o=>have:=k2 _ _ (k1 _ _ z);rw[hCfr]at this;cases this
 have hL:∀x,(x=C\/(x=I\/x=D))->s.heap.get? x=none:=λx w=>by rcases w with rfl|rfl|rfl<;>assumption
 have hLt:∀x,(x=C\/(x=I\/x=D))->∃o,h3.get? x=some o:=λx w=>by
  rcases w with rfl|rfl|rfl
  ·obtain⟨o,es,ep,g,_⟩:=hns;exact⟨o,g⟩
  ·obtain⟨o,e⟩:=hIt;exact⟨o,k3 _ _ (k2 _ _ e)⟩
  ·exact⟨_,k3 _ _ gD⟩
 have eqF:(F.or λx=>x=C).or (λx=>x=I\/x=D)=F.or λx=>x=C\/(x=I\/x=D):=funext λa=>propext or_assoc
 have I3:=wg (C:=C) (h':=h3) cs Iv kk hL hLt (.inl rfl) (by
  have:(λx=>List.lookup x ([]:List (Str × Value)).reverse)=λ_=>none:=rfl
  rw[<-this];exact hns)
 rw[<-eqF]at I3;obtain⟨fp,P,St,W,st0,hm,hfp,hfi,hel⟩:=itr;have st3:St 0 h3:=W.frame _ _ _ st0 λb hb o e=>k3 _ _ (k2 _ _ e)
 have nF:∀a,(F.or λx=>x=C) a->¬ (a=I\/a=D):=λa f w=>by
  rcases f with f|f
  ·obtain⟨o,e⟩:=Iv.ft a f;rw[hL a (.inr w)]at e;cases e
  ·rcases w with w|w
   ·exact hIC (f.symm.trans w)
   ·exact hDC (w.symm.trans f)
 have core:=ua (scope:=scope) (acc:=[]) (us:=[]) (m:=0) (G:=G) (F2:=F.or λx=>x=C) (Z:=Z) (I:=I) (D:=D) (C:=C) (own:=own) (pos:=pos) (iter:=iter) (ρ0:=ρ) (H0:=H) (s0:=s) (s1:={s with heap:=h3,toks:=s.toks+([]:List (Str × Value)).length}) (env:=compEnvC scope (bq env scope.names []) C env) hh cs.tg hn (hc _ C) (hb _ C) W hfi (λi v hi hv=>by
   obtain⟨x,e,rx⟩:=hel i v hi hv;refine⟨x,e,Rel.ext G (M:=al) ⟨λb o e _=>k3 _ _ (k2 _ _ e),λb o e=>⟨o,k3 _ _ (k2 _ _ e)⟩,λa w=>?_⟩ (λ_ m=>m.elim) rx⟩;rcases w with ((w|w)|(w|w))|w
   ·exact .inl (.inl (.inl w))
   ·right;rw[w]
    cases z:h1.get? C with
    |none=>rfl
    |some o=>have:=k2 _ _ z;rw[hCfr]at this;cases this
   ·exact .inl (.inl (.inr w))
   ·right;rw[w]
    cases z:h1.get? D with
    |none=>rfl
    |some o=>have:=Heap.lt_size z;rw[<-hDD]at this;exact absurd this (Mg _)
   ·exact .inl (.inr w)) ⟨h3,_,rfl⟩ kk (λx w=>hL x (.inr w)) nF hID rfl (λa m=>by
    rcases m with m|⟨x,c,hx,m⟩
    ·exact .inr m
    ·left;subst m
     exact(lT (λx hx hk=>by obtain⟨c,v,e,_⟩:=Iv.ev.cel0 x.1 (cs.free x hx hk);exact⟨c,e⟩) (mem_of_lookup hx)).elim (λw=>Iv.ev.celF x a w) λw=>by simp at w) hz (λv σ'=>wf) xs.length 0 (by omega) I3 (Aft.refl I3.sr) st3 (λb hb=>?_) (k3 _ _ gD) (show _=_ from rfl) (Nat.zero_le _) (by rw[wh];exact hx)
 ·have codec:=bX core λr s' q=>(by
   have q':=q;obtain⟨rfl,_⟩:=q
   exact hpost C D s' nC q':fC (Md G) A use Q E (.ref D) C r s')
  exact mz (λ_=>trivial) (λQ E q=>W.self 0 _ _ _ st3 q) codec
 ·rcases hfp b hb with w|⟨n,o,e⟩
  ·exact .inl w
  ·by_cases wI:b=I
   ·exact .inl wI
   right;refine⟨λm=>?_,o,k3 _ _ (k2 _ _ e)⟩;rcases m with ((m|m)|(m|m))|m
   ·exact n (.inl m)
   ·have:=k2 _ _ e;rw[m,hCfr]at this;cases this
   ·exact wI m
   ·have:=Heap.lt_size e;rw[m,<-hDD]at this;exact absurd this (Mg _)
   ·exact n (.inr m)
theorem Bo(own:Bool)(vs:List V)(H:Hp):∃b H',mk own vs H = .ok b H':=by cases own<;>exact⟨_,_,rfl⟩
theorem oN{t:Tg}{target:Expr}{scope:Scope}(cs:DT sc nm t target scope)(Iv:Inv G F A sc nm env ρ H σ s):∀x∈scope.names,x.2 = .free->∃c,env.cells.lookup x.1=some c:=λx hx hk=>by
 obtain⟨c,v,e,_⟩:=Iv.ev.cel0 x.1 (cs.free x hx hk);exact⟨c,e⟩
theorem qB{own:Bool}{t:Tg}{target elt iter:Expr}{ifs:List Expr}{scope:Scope}{c:ai->Hp->Out Bool}{f e:ai->Hp->Out V}
  (hh:A.handled=none) (cs:DT sc nm t target scope) (hn:nm.Nodup) (hs:j4 iter=true) (hi:SE G F A sc nm env Z e (eval iter env))
  (hc:∀F' C,ST G F' A scope nm (compEnvC scope (bq env scope.names []) C env) Z c (j8 ifs (compEnvC scope (bq env scope.names []) C env)))
  (hb:∀F' C,SE G F' A scope nm (compEnvC scope (bq env scope.names []) C env) Z f (eval elt (compEnvC scope (bq env scope.names []) C env))) :
  SE G F A sc nm env Z (λσ H=>(e σ H).vb λx H1=>match elems x with
   |some xs=>(aE (j5 c f t σ) xs H1).vb λvs H2=>mk own vs H2
   |none=>.bad) (eval (.ListComp elt [⟨target,iter,ifs,0⟩] scope pos) env):=λρ H s σ Iv=>by
 have hi':=hi Iv;dsimp only
 cases h1:e σ H with
 |bad=>trivial
 |exc _=>trivial
 |ok b H1=>
 rw[h1]at hi';dsimp only[Out.vb]
 cases h2:elems b with
 |none=>trivial
 |some xs=>
 dsimp only
 cases h3:aE (j5 c f t σ) xs H1 with
 |bad=>trivial
 |exc _=>trivial
 |ok vs H2=>
 dsimp only;obtain⟨b',H3,hm⟩:=Bo own vs H2;rw[hm,arm_eval_ListComp];refine dN (g:=⟨target,iter,ifs,0⟩) (gs:=[]) rfl (iL hs) (sk (oN cs Iv)) cs.kind cs.names ?_;refine ag (show wpS _ _ (eval iter env) _ _ _ from hi') (λx s1 q=>?_) λ_ _ w=>w.elim;obtain⟨ρ1,a1,r1⟩:=q;have I1:=Iv.aft a1;refine oM (own:=own) hh cs hn hc hb I1 r1 h2 h3 λC D s' nC q=>?_;obtain⟨_,ρ',b2,H4,hm2,a2,r2,m,ns⟩:=q;rw[hm]at hm2;cases hm2;refine⟨m,ns,λh' sb=>⟨ρ',a1.trans ((a2.weak (M':=λx=>al x\/x=C) λ_ w=>.inr w).shed2 (Same.refl _) (λ_ _ e=>e) (λx w=>by rw[w];exact nC) ⟨h',s'.toks,rfl⟩ λb o n e=>(sb.2 b n).trans e),?_⟩⟩;exact r2.ext0 (M:=λx=>x=C) ⟨λb o e n=>(sb.2 b n).trans e,λa w=>.inl (cb (λ_ f=>.inl f) (λ_ w=>w) a w)⟩ (λ_ l=>.inl (.inr l)) (LP _)
theorem Inv.over{C:Addr}(I1:Inv G F A sc nm env ρ H σ s)(nC:s.heap.get? C=none)(a:Aft G (F.or λx=>x=C) (λx=>x=C) ρ H s ρ' H' s')(hC:∃o,s'.heap.get? C=some o):Inv G (F.or λx=>x=C) A sc nm env ρ' H' σ s':=by
 have nF:∀b,F b->¬b=C:=λb f w=>by
  obtain⟨o,e⟩:=I1.ft b f;rw[w,nC]at e;cases e
 have mv:∀v u,TRel G ρ (F.or (aj ρ H)) s.heap v u->TRel G ρ' ((F.or λx=>x=C).or (aj ρ' H')) s'.heap v u:=λv u r=>
  a.trel (λx w=>.inr w) (r.ext (Ext.news (L:=λx=>x=C) (λ_ _ e=>e) λx w=>by rw[w];exact nC) (λ_ m=>m.elim) (LP _))
 refine⟨a.sr,I1.ev.re (λb m=>.inl (I1.ev.meF b m)) (λb o m e=>a.frm b o (.inl (I1.ev.meF b m)) e (nF b (I1.ev.meF b m))) mv,?_,λx w=>w.elim (λf=>let ⟨o,e⟩:=I1.ft x f;a.ext.there x o e) λw=>by rw[w];exact hC⟩;obtain⟨l,e,q⟩:=I1.st;refine⟨l,e,λen hen=>?_⟩;obtain⟨k1,L,o,es,ep,e1,f,g,d⟩:=q en hen;obtain⟨sl,g',_⟩:=a.frm L o (.inl f) g (nF L f);exact⟨k1,L,_,es,ep,e1,.inl f,g',d⟩
end
end J.Internal
namespace J.Internal
noncomputable section
def gW(G:Cx)(F:Av)(A:Around)(sc:Scope)(nm:List Str)(env:Env)(pos:Pos)(p:Pos)(q:Pos)(x:Str)(own:Bool)(i:Nat)(t:Tg)(target:Expr)(elt:Expr)(iter:Expr)(ifs:List Expr)(scope:Scope)(c:ai->Hp->Out Bool)(f:ai->Hp->Out V)(e:ai->Hp->Out V):Prop:=
 ∀(hh:A.handled=none)(hN:t9 sc nm i x)(cs:DT sc nm t target scope)(hn:nm.Nodup)(hs:j4 iter=true)(hi:SE G F A sc nm env (Zl env) e (eval iter env))(hc:∀F' C,ST G F' A scope nm (compEnvC scope (bq env scope.names []) C env) (Zl env) c (j8 ifs (compEnvC scope (bq env scope.names []) C env)))(hb:∀F' C,SE G F' A scope nm (compEnvC scope (bq env scope.names []) C env) (Zl env) f (eval elt (compEnvC scope (bq env scope.names []) C env))),SS G F A sc nm env (Zl env) (λσ H=>(((e σ H).vb λx H1=>match elems x with
   |some xs=>(aE (j5 c f t σ) xs H1).vb λvs H2=>mk own vs H2
   |none=>.bad)).vb λv H1=>.ok (.next,ao σ i v) H1) (exec (.Assign [.Name x p] (.ListComp elt [⟨target,iter,ifs,0⟩] scope q) pos) env)
namespace Ks_asgC
def z:=ep (D6 gW)
def env:=z.2.2.2.2.2.1
def pos:=z.2.2.2.2.2.2.1
def p:=z.2.2.2.2.2.2.2.1
def q:=z.2.2.2.2.2.2.2.2.1
def x:=z.2.2.2.2.2.2.2.2.2.1
def own:=z.2.2.2.2.2.2.2.2.2.2.1
def target:=z.2.2.2.2.2.2.2.2.2.2.2.2.2.1
def iter:=z.2.2.2.2.2.2.2.2.2.2.2.2.2.2.2.1
def ifs:=z.2.2.2.2.2.2.2.2.2.2.2.2.2.2.2.2.1
def f:=z.2.2.2.2.2.2.2.2.2.2.2.2.2.2.2.2.2.2.2.1
def e:=z.2.2.2.2.2.2.2.2.2.2.2.2.2.2.2.2.2.2.2.2
theorem T:gW z.1 z.2.1 z.2.2.1 z.2.2.2.1 z.2.2.2.2.1 env pos p q x own z.2.2.2.2.2.2.2.2.2.2.2.1 z.2.2.2.2.2.2.2.2.2.2.2.2.1 target z.2.2.2.2.2.2.2.2.2.2.2.2.2.2.1 iter ifs z.2.2.2.2.2.2.2.2.2.2.2.2.2.2.2.2.2.1 z.2.2.2.2.2.2.2.2.2.2.2.2.2.2.2.2.2.2.1 f e:=λhh hN cs hn hs hi hc hb=>
 λρ H s σ Iv=>by
 have sw:∃B,swapsWith (.ListComp z.2.2.2.2.2.2.2.2.2.2.2.2.2.2.1 [⟨target,iter,ifs,0⟩] z.2.2.2.2.2.2.2.2.2.2.2.2.2.2.2.2.2.1 q) (some (.Name x p)) pos.line env=pure B:=⟨_,rfl⟩;obtain⟨B,sw⟩:=sw
 cases B with
 |false=>
  rw[exec_Assign_Name env x p _ pos sw];refine Wps.via (λQ E q=>aa (ac q)) ?_;refine Wps.vb0 Iv.sr Iv.fr (qB (own:=own) hh cs hn hs hi hc hb Iv) λa b ρ1 H1 s1 e1 a1 r1=>?_;have I1:=Iv.aft a1;exact aa (ac (aa (ah (wpAny_bindName (wpAny_mono (gQ I1 hN.1 hN.2 hn r1) (λ_ s2 L2=>ae ⟨ρ1,L2.post⟩) λ_ _ w=>w)))))
 |true=>
 rw[exec_Assign_Name_used x p _ pos sw,arm_evalThenUse_ListComp];have hi':=hi Iv;dsimp only
 cases h1:e σ H with
 |bad=>trivial
 |exc _=>trivial
 |ok b H1=>
 rw[h1]at hi';dsimp only[Out.vb]
 cases h2:elems b with
 |none=>trivial
 |some xs=>
 dsimp only
 cases h3:aE (j5 z.2.2.2.2.2.2.2.2.2.2.2.2.2.2.2.2.2.2.1 f z.2.2.2.2.2.2.2.2.2.2.2.2.1 σ) xs H1 with
 |bad=>trivial
 |exc _=>trivial
 |ok vs H2=>
 dsimp only;obtain⟨b',H3,hm⟩:=Bo own vs H2;rw[hm];refine aa (ac (aa (aa ?_)));refine dN (g:=⟨target,iter,ifs,0⟩) (gs:=[]) rfl (iL hs) (sk (oN cs Iv)) cs.kind cs.names ?_;refine ag (show wpS _ _ (eval iter env) _ _ _ from hi') (λx s1 q=>?_) λ_ _ w=>w.elim;obtain⟨ρ1,a1,r1⟩:=q;have I1:=Iv.aft a1;refine oM (own:=own) hh cs hn hc hb I1 r1 h2 h3 λC D s' nC q=>?_;obtain⟨_,ρ',b2,H4,hm2,a2,r2,m,ns⟩:=q;rw[hm]at hm2;cases hm2;have I2:=I1.over nC a2 (by obtain⟨o,es,ep,g,_⟩:=ns;exact⟨o,g⟩);show wpS _ _ (assign (.Name _ p) env (.ref D)) _ _ _;rw[arm_assign_Name];refine aa (ac (ah (wpAny_bindName (wpAny_mono (gQ I2 hN.1 hN.2 hn r2) (λ_ s3 L2=>?_) λ_ _ w=>w))));obtain⟨o,es,ep,g,rr⟩:=ns
 have nMe:¬Me env C:=λw=>by
  obtain⟨o,e⟩:=I1.ft C (I1.ev.meF C w);rw[nC]at e;cases e
 obtain⟨sl,g',_⟩:=L2.aft.frm C o (.inr rfl) g nMe;refine⟨m,⟨_,es,ep,g',rr⟩,λh' sb=>ae (ae ?_)⟩;have tot:=(a2.weak (M':=λx=>Me env x\/x=C) λ_ w=>.inr w).trans (L2.aft.weak λ_ w=>.inl w);have kk:∀b o,¬b=C->s3.heap.get? b=some o->h'.get? b=some o:=λb o n e=>(sb.2 b n).trans e
 have nF:∀b,z.2.1 b->¬b=C:=λb f w=>by
  obtain⟨o,e⟩:=I1.ft b f;rw[w,nC]at e;cases e
 exact⟨ρ',(a1.weak λ_ w=>w.elim).trans (tot.shed2 (Same.refl _) (λ_ _ e=>e) (λx w=>by rw[w];exact nC) ⟨h',s3.toks,rfl⟩ kk),trivial,L2.ev.shed kk λb m=>⟨I1.ev.meF b m,nF b (I1.ev.meF b m)⟩,L2.st.shed2 I1.st kk nF⟩
end Ks_asgC
end
theorem wi{G F A sc nm env pos p q x own i t target elt iter ifs scope c f e}:gW G F A sc nm env pos p q x own i t target elt iter ifs scope c f e:=cN (p:=D6 gW) Ks_asgC.T (G,F,A,sc,nm,env,pos,p,q,x,own,i,t,target,elt,iter,ifs,scope,c,f,e)
variable{G:Cx}
variable{F:Av}{A:Around}{ρ ρ':List (Addr × Addr)}{H:Hp}{s:Shared}{h h':Heap}{Z:Option (Option Addr)->Prop}
section
variable{sc:Scope}{nm:List Str}{env:Env}{σ:ai}{pos p:Pos}{x:Str}{n:Nat}
theorem mU{lo hi st:Int}{t u w:Tok}{k:Nat}(Iv:Inv G F A sc nm env ρ H σ s)(h1:small lo=true)(h2:small hi=true)(h3:small st=true)(h0:st≠0)(hz:cy lo hi st<=aq) :
  ∃ρ',Aft G F al ρ H s ρ' H {s with heap:=s.heap.push {cls:=.type "range", data:=.fields #[.int lo t,.int hi u,.int st w]},toks:=k}/\
   RV G F ρ' H (s.heap.push {cls:=.type "range", data:=.fields #[.int lo t,.int hi u,.int st w]}) (.rng lo st (cy lo hi st)) (.ref s.heap.objs.size):=by
 refine⟨ρ,.keeps Iv.sr ⟨_,_,rfl⟩ aA,?_⟩;show Rel _ _ _ _ _;show _/\∃a hi t u w,_;exact⟨hz,_,hi,t,u,w,rfl,bw Iv.sr Iv.ft,Heap.get?_push_size _ rfl,rfl,h0,h1,h2,h3⟩
@[elab_as_elim] theorem Jt{h:Heap}{a:V}{us:List Value}{P:List Value->Prop}(rt:RTs G F ρ H h [a] us)(k:∀u,TRel G ρ (F.or (aj ρ H)) h a u->P [u]):P us:=lM (P:=P) rt λu q r rt=>(show q=[]from rt)▸k u r
@[elab_as_elim] theorem Ju{h:Heap}{a b:V}{us:List Value}{P:List Value->Prop}(rt:RTs G F ρ H h [a,b] us)(k:∀u v,TRel G ρ (F.or (aj ρ H)) h a u->TRel G ρ (F.or (aj ρ H)) h b v->P [u,v]):P us:=lM (P:=P) rt λu q r rt=>Jt (P:=λq=>P (u::q)) rt λv r'=>k u v r r'
@[elab_as_elim] theorem KS{h:Heap}{a b c:V}{us:List Value}{P:List Value->Prop}(rt:RTs G F ρ H h [a,b,c] us)(k:∀u v w,TRel G ρ (F.or (aj ρ H)) h a u->TRel G ρ (F.or (aj ρ H)) h b v->TRel G ρ (F.or (aj ρ H)) h c w->P [u,v,w]):P us:=lM (P:=P) rt λu q r rt=>Ju (P:=λq=>P (u::q)) rt λv w r1 r2=>k u v w r r1 r2
theorem Cw{hi:Int}(h:hi<=1000000):cy 0 hi 1<=aq:=by
 unfold cy aq;rw[if_pos (by decide)]
 by_cases w:0<hi
 ·rw[if_pos w,Int.ediv_one,Int.sub_zero,Int.sub_add_cancel];exact Int.toNat_le.mpr h
 ·rw[if_neg w];exact Mr _
theorem Cy{vs:List V}{us:List Value}(bg:Bg G)(rm:Rm n A)(Iv:Inv G F A sc nm env ρ H σ s)(rt:RTs G F ρ H s.heap vs us) :
  Wps G F al A ρ H s (call (.type "range") us) (RV G F) Z (bW vs H):=
 e1 (P:=λvs o=>RTs G F ρ H s.heap vs us->Wps G F al A ρ H s (call (.type "range") us) (RV G F) Z o) (λrt=>e2 (P:=λvs o=>RTs G F ρ H s.heap vs us->Wps G F al A ρ H s (call (.type "range") us) (RV G F) Z o)
  (λrt=>e3 (P:=λvs o=>RTs G F ρ H s.heap vs us->Wps G F al A ρ H s (call (.type "range") us) (RV G F) Z o) (λ_=>trivial)
   (λa b c rt=>KS rt λu v w r1 r2 r3=>cg r1 trivial λlo t=>cg r2 trivial λhi t2=>cg r3 trivial λst t3=>Wps.guard λhg=>eK hg λhg h5=>eK hg λhg h4=>eK hg λhg h3=>eK hg λh1 h2=>
    ah (call_range_3 (of_decide_eq_true h4) (mU Iv h1 h2 h3 (of_decide_eq_true h4) (of_decide_eq_true h5)) (.inr (vh bg.bf Iv.sr rm)))) rt)
  (λa b rt=>Ju rt λu v r1 r2=>cg r1 trivial λlo t=>cg r2 trivial λhi t2=>Wps.guard λhg=>eK hg λhg h3=>eK hg λh1 h2=>ah (call_range_2 (mU Iv h1 h2 (by decide) (by decide) (of_decide_eq_true h3)))) rt)
  (λa rt=>Jt rt λu r1=>cg r1 trivial λhi t=>Wps.guard λhg=>eK hg λh1 h2=>ah (call_range_1 (mU Iv (by decide) h1 (by decide) (by decide) (Cw (of_decide_eq_true h2))))) rt
theorem wj{f:Value}{es:List Expr}{g:ai->Hp->Out (List V)}{k:List V->Hp->Out V}(bg:Bg G)(gl:Gl G)(hk:mE G f)
  (hx:sc.names.lookup x=some .globalImplicit) (hd:(x==("__debug__" : Str))=false) (hv:nsIn G.K mainGlobals x=some none) (hb:bootBuiltins x=some f) (hnn:x ≠ "__name__") (hp:Pl (backTo pos (starEach es env)))
  (ha:lx G F A sc nm env Z g (spliced (backTo pos (starEach es env))))
  (hc:∀{us vs ρ1 H1 s1 σ},Inv G F A sc nm env ρ1 H1 σ s1->RTs G F ρ1 H1 s1.heap vs us->Wps G F al A ρ1 H1 s1 (call f us) (RV G F) Z (k vs H1)) :
  SE G F A sc nm env Z (λσ H=>(g σ H).vb k) (eval (.Call (.Name x p) es [] pos) env):=λρ H s σ Iv=>by
 rw[arm_eval_Call_Name'];refine Wps.via (λQ E q=>aa (ah (vE bg gl Iv hx hd hv hb hnn q))) ?_;exact c9 hp hk Iv (ha Iv) λus vs ρ1 H1 s1 e1 a1 I1 r1=>hc I1 r1
theorem j9:∀ys:List Str,(Str.join ⟨#[]⟩ ys).cps.toList=(ys.map λy=>y.cps.toList).flatten
 |[]=>rfl
 |[y]=>by simp[Str.join]
 |y::z::r=>by
  show((y++(⟨#[]⟩ : Str)++Str.join ⟨#[]⟩ (z::r)):Str).cps.toList=_;have e:((y++(⟨#[]⟩ : Str)++Str.join ⟨#[]⟩ (z::r)):Str).cps=y.cps++#[]++(Str.join ⟨#[]⟩ (z::r)).cps:=rfl;rw[e];simp[j9 (z::r)]
theorem ud{X:Av}{xs:List V}:∀{us:List Value}{l:List Nat},J.Internal.joinS xs=some l->RelL G X h xs us->∃ys:List Str,StrsAre us ys/\(ys.map λy=>y.cps.toList).flatten=l:=by
 induction xs with
 |nil=>intro us l e r;cases e;exact(show us=[]from r)▸⟨[],.nil,rfl⟩
 |cons x xs ih=>
  intro us l e r;exact bY r λv q rx rr=>jN (d:=none) (f:=λl=>(J.Internal.joinS xs).map (l++·)) (P:=λv o=>o=some l->∃ys:List Str,StrsAre (v::q) ys/\(ys.map λy=>y.cps.toList).flatten=l) (aF (ρ:=[]) rx) (λw=>(by cases w))
   (λl0 t z e=>lw e λl1 e1 e2=>(ih e1 rr).elim λys h=>⟨⟨l0.toArray⟩::ys,.cons _ _ h.1,e2▸congrArg (l0++·) h.2⟩) e
theorem wk{ys:List Str}{l:List Nat}(h:(ys.map λy=>y.cps.toList).flatten=l):Txt.join (⟨#[]⟩ : Str) ys=⟨l.toArray⟩:=
 (StrLaws.glued_eq_join _ _).trans (by
  have e:=(j9 ys).trans h
  cases hh:Str.join ⟨#[]⟩ ys with
  |mk c=>rw[hh]at e;exact congrArg Str.mk (e▸rfl))
theorem wl{b:V}{v:Value}{t:Tok}(sr:SR G F ρ H s.heap)(r:TRel G ρ (F.or (aj ρ H)) s.heap b v) :
  Wps G F al A ρ H s (call (.builtin "str.join") [.str ⟨#[]⟩ t,v]) (RV G F) Z (b.onL (λxs=>bo (J.Internal.joinS xs) λl=>guard (decide (l.length<=aq)) (.ok (.str l) H)) .bad):=
 wL r trivial λxs a us m z nx g lr=>mB trivial λl hj=>Wps.guard λhg=>(ud hj lr).elim λys q=>
  have hg:=of_decide_eq_true hg
  have hsum:(ys.map (·.length)).sum<=aq:=by
   have e:(ys.map (·.length)).sum=((ys.map λy=>y.cps.toList).flatten).length:=by rw[List.length_flatten,L5];rfl
   rw[e,q.2];exact hg
  ah (join_list (aY g) q.1 (LB hsum (by decide)) λt' k=>⟨ρ,.toks sr k,hg,t',congrArg (Value.str · t') (wk q.2)⟩)
theorem oP{X:Av}{xs:List V}:∀{us:List Value}{l:List UInt8},cR xs=some l->RelL G X h xs us->∃ns,IntsAre us ns/\(∀n∈ns,0<=n/\n<256)/\ns.map (λn=>n.toNat.toUInt8)=l:=by
 induction xs with
 |nil=>intro us l e r;cases e;exact(show us=[]from r)▸⟨[],.nil,(λ_ m=>(by cases m)),rfl⟩
 |cons x xs ih=>
  intro us l e r;exact bY r λv q rx rr=>cg (d:=none) (f:=λi=>if 0<=i/\i<256 then(cR xs).map (UInt8.ofNat i.toNat::·)else none) (P:=λv o=>o=some l->∃ns,IntsAre (v::q) ns/\(∀n∈ns,0<=n/\n<256)/\ns.map (λn=>n.toNat.toUInt8)=l) (aF (ρ:=[]) rx) (λw=>(by cases w))
   (λi t e=>(LY (0<=i/\i<256)).elim (λhi=>lw ((if_pos hi).symm.trans e) λl1 e1 e2=>(ih e1 rr).elim λns h=>⟨i::ns,.cons _ _ h.1,(λn m=>(LI.mp m).elim (λw=>w▸hi) (h.2.1 n)),e2▸congrArg (UInt8.ofNat i.toNat::·) h.2.2⟩) λhi=>nomatch (if_neg hi).symm.trans e) e
theorem mV{xs:List V}{l:List UInt8}{v:Value}(hh:A.handled=none)(sr:SR G F ρ H s.heap)(r:TRel G ρ (F.or (aj ρ H)) s.heap (.lst xs) v)(hj:cR xs=some l) :
  Wps G F al A ρ H s (call (.type "bytes") [v]) (RV G F) Z (.ok (.byt l) H):=by
 obtain⟨z,a,us,m,rfl,nx,g,lr⟩:=(show _/\∃b vs n,_ from r);obtain⟨ns,h1,h2,h3⟩:=oP hj lr;have e1:=RelL.length lr;exact ah (call_bytes_ints (aY g) h1 h2 (LB (e1▸z) (by decide)) hh λh' t k hk=>⟨ρ,.keeps sr ⟨h',k,rfl⟩ hk,by rw[<-h3,LF,<-h1.length,e1];exact z,t,congrArg (λl=>Value.bytes l.toArray t) h3⟩)
end
theorem mW:typeLookup (.type "int") "__bytes__" = pure none:=by rw[typeLookup_type,builtinLookup_eq_fast];kernel_rfl
end J.Internal
namespace J.Internal
noncomputable section
def fJ(A:Around)(s:Shared)(prog:Program)(w:World)(E:Value->Shared->Prop)(n:Int)(u:Tok)(Q:Value->Shared->Prop):Prop:=
 ∀(h0:0<=n)(h1:n<=1000)(hQ:∀t k,Q (.bytes (Array.replicate n.toNat 0) t) {s with toks:=k}),codeAny (model prog w) A (.call (.builtin "bytes.__new__") ⟨[.type "bytes", .int n u],[]⟩) (wants Q E) s
namespace Kbm_newI
def z:=ep (V8 fJ)
def A:=z.1
def s:=z.2.1
def n:=z.2.2.2.2.2.1
def u:=z.2.2.2.2.2.2.1
theorem T:fJ A s z.2.2.1 z.2.2.2.1 z.2.2.2.2.1 n u z.2.2.2.2.2.2.2:=by
 intro h0 h1 hQ;refine codeAny_of_tree ?_;show wpAny _ A.in1 (do checkBuiltinCall "bytes.__new__" ⟨[.type "bytes", .int n u],[]⟩;again (.builtin "bytes.__new__" ⟨[.type "bytes", .int n u],[]⟩)) _ _ s;refine wpAny_bind (wpAny_of_eq (F.bm_newCall _) (wpAny_pure ⟨plainId_quiet F.bm_plain _,codeAny_builtin F.bm_entry ?_⟩));rw[Around.under_plainId F.bm_plain _];have hT:s.TypeIs (.int n u) "int" := by exact typeIs_int _ _ _
 unfold Builtin.«bytes.__new__»;refine wpAny_bind (wpAny_of_eq (a:=true) rfl ?_);refine bm_if_false rfl ?_;refine wpAny_bind (wpAny_of_eq F.bm_sub ?_);refine bm_if_false rfl ?_;refine wpAny_bind (wpAny_of_eq (F.bm_bind _) ?_);refine wpAny_bind (wpAny_of_eq (a:=()) rfl ?_);refine wpAny_bind (wpAny_of_eq (a:=()) rfl ?_);refine bm_if_false rfl ?_;refine wpAny_bind (wpAny_specialOf hT mW ?_);refine wpAny_bind (wpAny_of_eq (a:=false) rfl ?_);refine bm_if_false rfl ?_;refine wpAny_bind (wpAny_specialOf hT int_index ?_);refine bm_if_false rfl ?_;refine wpAny_bind (wpAny_attempt (wpAny_of_eq (a:=n) rfl ?_));dsimp only;refine bm_if_false (by unfold Builtin.Bytes.fitsIndex;simp only[Bool.not_eq_false',Bool.and_eq_true,decide_eq_true_eq];omega) ?_;rw[if_neg (show ¬n<0 by omega),if_neg (show ¬n > 2 ^ 63 - 34 by omega)];refine bm_if_false (by unfold Builtin.Bytes.tooLong;rw[decide_eq_false_iff_not];exact Nat.not_lt.mpr (LB (show n.toNat<=1000 by omega) (by decide))) ?_;refine wpAny_bind (wpAny_rule ?_);refine wpAny_bind (wpAny_mkBytes ?_ (by rw[Array.size_replicate];exact LB (show n.toNat<=1000 by omega) (by decide)));show wpAny _ _ (if (Value.type "bytes" == Value.type "bytes")=true then _ else _) _ _ _;refine bm_if_true (by decide) ?_
 first
  |exact wpAny_pure (hQ _ _)
  |exact wpAny_bind (wpAny_pure (wpAny_pure (hQ _ _)))
end Kbm_newI
end
theorem zf{A s prog w E n u Q}:fJ A s prog w E n u Q:=cN (p:=V8 fJ) Kbm_newI.T (A,s,prog,w,E,n,u,Q)
variable{F:Av}{A:Around}{s:Shared}{h:Heap}
section
variable{prog:Program}{w:World}{E:Value->Shared->Prop}
theorem ka{n:Int}{u:Tok}{Q:Value->Shared->Prop}(h0:0<=n)(h1:n<=1000)(hQ:∀t k,Q (.bytes (Array.replicate n.toNat 0) t) {s with toks:=k}) :
  wpAny (model prog w) A (call (.type "bytes") [.int n u]) Q E s:=by
 refine callType_codes (Q₁:=λobj s₁=>s₁.TypeIs obj "bytes" /\ Q obj s₁) F.bm_called (F.bm_typeCall _) F.entry_object_init
  (zf h0 h1 λt k=>⟨PySem.W.typeIs_bytes _ _ _,hQ t k⟩) λobj s₁ h₁=>?_
 exact⟨h₁.1,F.args_object_init_2 obj _,object_init_meets F.bm_called.init.lookup F.bm_called.made (by decide) prog w A.in1 _ s₁ ⟨h₁.1,rfl,h₁.2⟩⟩
end
theorem oQ:typeLookup (.type "bytearray") "__bytes__" = pure none:=by rw[typeLookup_type,builtinLookup_eq_fast];kernel_rfl
theorem oS:typeLookup (.type "bytearray") "__index__" = pure none:=by rw[typeLookup_type,builtinLookup_eq_fast];kernel_rfl
theorem iM:typeLookup (.type "bytearray") "__buffer__" = pure (some (.builtin "bytearray.__buffer__")):=by rw[typeLookup_type,builtinLookup_eq_fast];kernel_rfl
theorem kb:typeLookup (.type "bytearray") "__release_buffer__" = pure (some (.builtin "bytearray.__release_buffer__")):=by rw[typeLookup_type,builtinLookup_eq_fast];kernel_rfl
section
variable{prog:Program}{w:World}{E:Value->Shared->Prop}
theorem dQ{a:Addr}{l:List UInt8}(g:s.heap.get? a=some (eL l)):s.TypeIs (.ref a) "bytearray" := ⟨_,g,rfl⟩
theorem qC{a:Addr}{l:List UInt8}{name:String}{Q:Bool->Shared->Prop}(g:s.heap.get? a=some (eL l))(hl:typeLookup (.type "bytearray") (name:Str)=pure (some (.builtin ("bytearray." ++ name))))
  (he:("bytearray." ++ name).endsWith ("." ++ name)=true) (hd:("bytearray." ++ name).dropRight (name.length+1) = "bytearray") (h:Q true s):wpAny (model prog w) A (Builtin.Bytes.slotIsOwn (.ref a) name) Q E s:=by
 unfold Builtin.Bytes.slotIsOwn;refine wpAny_bind (wpAny_specialOf (dQ g) hl ?_)
 try dsimp only
 refine bm_if_false (by rw[he];rfl) ?_;rw[hd];exact wpAny_isInstance (dQ g) (show isSubtype (.type "bytearray") (.type "bytearray")=pure true by rw[isSubtype_type];kernel_rfl) h
end
end J.Internal
namespace J.Internal
noncomputable section
def fK(A:Around)(s:Shared)(prog:Program)(w:World)(E:Value->Shared->Prop)(a:Addr)(l:List UInt8)(Q:Value->Shared->Prop):Prop:=
 ∀(g:s.heap.get? a=some (eL l))(hz:l.length<=sizeLine)(hQ:∀t k,Q (.bytes l.toArray t) {s with toks:=k}),codeAny (model prog w) A (.call (.builtin "bytes.__new__") ⟨[.type "bytes", .ref a],[]⟩) (wants Q E) s
namespace Kbm_newB
def z:=ep (V8 fK)
def A:=z.1
def a:=z.2.2.2.2.2.1
theorem T:fK A z.2.1 z.2.2.1 z.2.2.2.1 z.2.2.2.2.1 a z.2.2.2.2.2.2.1 z.2.2.2.2.2.2.2:=by
 intro g hz hQ;refine codeAny_of_tree ?_;show wpAny _ A.in1 (do checkBuiltinCall "bytes.__new__" ⟨[.type "bytes", .ref a],[]⟩;again (.builtin "bytes.__new__" ⟨[.type "bytes", .ref a],[]⟩)) _ _ z.2.1;refine wpAny_bind (wpAny_of_eq (F.bm_newCall _) (wpAny_pure ⟨plainId_quiet F.bm_plain _,codeAny_builtin F.bm_entry ?_⟩));rw[Around.under_plainId F.bm_plain _];have hT:=dQ g;unfold Builtin.«bytes.__new__»;refine wpAny_bind (wpAny_of_eq (a:=true) rfl ?_);refine bm_if_false rfl ?_;refine wpAny_bind (wpAny_of_eq F.bm_sub ?_);refine bm_if_false rfl ?_;refine wpAny_bind (wpAny_of_eq (F.bm_bind _) ?_);refine wpAny_bind (wpAny_of_eq (a:=()) rfl ?_);refine wpAny_bind (wpAny_of_eq (a:=()) rfl ?_);refine bm_if_false rfl ?_;refine wpAny_bind (wpAny_specialOf hT oQ ?_);refine wpAny_bind (wpAny_bind ?_);show wpAny _ _ (load a>>=_) _ _ _;refine wpAny_bind (wpAny_load g ?_);refine wpAny_pure (wpAny_pure ?_);refine bm_if_false rfl ?_;refine wpAny_bind (wpAny_specialOf hT oS ?_);refine bm_if_true rfl ?_
 first
  |show wpAny _ _ (Builtin.Bytes.buffer? "bytes.__new__" (.ref a) true>>=_) _ _ _
  |(refine wpAny_bind ?_;show wpAny _ _ (Builtin.Bytes.buffer? "bytes.__new__" (.ref a) true>>=_) _ _ _)
 refine wpAny_bind ?_;unfold Builtin.Bytes.buffer?;refine wpAny_bind (wpAny_specialOf hT iM ?_)
 try dsimp only
 refine wpAny_bind (qC g iM (by decide +kernel) (by decide +kernel) ?_);refine bm_if_false rfl ?_;refine wpAny_bind (wpAny_specialOf hT iM ?_)
 try dsimp only
 unfold Builtin.Bytes.ownRelease;refine wpAny_bind (wpAny_bind (qC g kb (by decide +kernel) (by decide +kernel) (wpAny_pure ?_)));refine bm_if_false rfl ?_;unfold Builtin.Bytes.payload Builtin.Bytes.payload?;refine wpAny_bind (wpAny_bind (wpAny_bind (wpAny_load g ?_)));refine wpAny_pure (wpAny_pure (wpAny_pure ?_));refine wpAny_bind (wpAny_rule ?_);refine wpAny_bind (wpAny_mkBytes ?_ (by simpa using hz));show wpAny _ _ (if (Value.type "bytes" == Value.type "bytes")=true then _ else _) _ _ _;refine bm_if_true (by decide) ?_
 first
  |exact wpAny_pure (hQ _ _)
  |exact wpAny_bind (wpAny_pure (wpAny_pure (hQ _ _)))
end Kbm_newB
end
theorem zg{A s prog w E a l Q}:fK A s prog w E a l Q:=cN (p:=V8 fK) Kbm_newB.T (A,s,prog,w,E,a,l,Q)
variable{G:Cx}
variable{F M:Av}{A:Around}{ρ:List (Addr × Addr)}{H:Hp}{s s':Shared}{h h':Heap}{Z:Option (Option Addr)->Prop}
section
variable{prog:Program}{w:World}{E:Value->Shared->Prop}
theorem ly{a:Addr}{l:List UInt8}{Q:Value->Shared->Prop}(g:s.heap.get? a=some (eL l))(hz:l.length<=sizeLine)(hQ:∀t k,Q (.bytes l.toArray t) {s with toks:=k}) :
  wpAny (model prog w) A (call (.type "bytes") [.ref a]) Q E s:=by
 refine callType_codes (Q₁:=λobj s₁=>s₁.TypeIs obj "bytes" /\ Q obj s₁) F.bm_called (F.bm_typeCall _) F.entry_object_init
  (zg g hz λt k=>⟨PySem.W.typeIs_bytes _ _ _,hQ t k⟩) λobj s₁ h₁=>?_
 exact⟨h₁.1,F.args_object_init_2 obj _,object_init_meets F.bm_called.init.lookup F.bm_called.made (by decide) prog w A.in1 _ s₁ ⟨h₁.1,rfl,h₁.2⟩⟩
end
section
theorem wm{b:V}{v:Value}(hh:A.handled=none)(sr:SR G F ρ H s.heap)(r:TRel G ρ (F.or (aj ρ H)) s.heap b v):Wps G F al A ρ H s (call (.type "bytes") [v]) (RV G F) Z (bG .bytes b H):=
 yJ (P:=λv o=>Wps G F al A ρ H s (call (.type "bytes") [v]) (RV G F) Z o) r (cg (P:=λv o=>Wps G F al A ρ H s (call (.type "bytes") [v]) (RV G F) Z o) r
  (Bh (P:=λv o=>Wps G F al A ρ H s (call (.type "bytes") [v]) (RV G F) Z o) sr r (λ_=>trivial) λi q o hq ho ro=>Hl (P:=λo x=>RelO G ρ (F.or (aj ρ H)) s.heap q o->Wps G F al A ρ H s (call (.type "bytes") [.ref q.1]) (RV G F) Z x) (λ_=>trivial)
   (λl ro=>ah (ly ro.2 (dO ro.1) λt' k=>⟨ρ,.toks sr k,ro.1,t',rfl⟩)) ro)
  λn t=>Wps.guard λhg=>BY hg λh0 h1=>ah (ka h0 h1 λt' k=>⟨ρ,.toks sr k,by rw[List.length_replicate];exact LB (Int.toNat_le.mpr h1:n.toNat<=1000) (by decide),t',by congr 1⟩))
  λxs r=>mB trivial λl hj=>mV hh sr r hj
variable{prog:Program}{w:World}{E:Value->Shared->Prop}
theorem fZ{T:String}{name:Str}{id:String}{b:Builtin}{self:Value}{rest:List Value}{Q:Value->Shared->Prop}(h:Slot T name id)(hT:s.TypeIs self T)(hb:entryFor table id=some b)(hk:rW (.builtin id ⟨self::rest,[]⟩)=true)
  (hc:wpS (model prog w) A.in1 (b ⟨self::rest,[]⟩) (λfin s'=>∃v,fin = .done (.ret v)/\Q v s') E s) (ha:argsOk id ⟨self::rest,[]⟩) :
  wpS (model prog w) A (call (.builtin id) (self::rest)) Q E s:=by
 refine ds (je h.plain hk hb (ah (h.check _ _ _ _ _ _ _ _ hT ha (ag hc (λfin s' h'=>?_) λ_ _ h'=>h'))));obtain⟨v,rfl,hv⟩:=h';exact hv
theorem cA{α:Type}{M:Model}{c:Bool}{a b:Sem α}{Q:α->Shared->Prop}(hc:c=false)(h:wpS M A b Q E s):wpS M A (if c=true then a else b) Q E s:=by
 subst hc;exact h
theorem gz{α:Type}{M:Model}{c:Bool}{a b:Sem α}{Q:α->Shared->Prop}(hc:c=true)(h:wpS M A a Q E s):wpS M A (if c=true then a else b) Q E s:=by
 subst hc;exact h
theorem fa:Slot "bytearray" "extend" "bytearray.extend" :=
 .of (owner := "bytearray") (n := "extend") (by rw[typeLookup_type,builtinLookup_eq_fast];kernel_rfl) (by decide +kernel) (by decide +kernel) (by decide +kernel)
  (by first|exact .inl (by decide +kernel)|exact .inr (by decide +kernel)) (by rw[isSubtype_type];kernel_rfl)
theorem jg:entryFor table "bytearray.extend" = some Builtin.«bytearray.extend»:=by first|exact entryFor_of_fast (by kernel_rfl)|exact entryFor_of_tree (by kernel_rfl)
theorem ke(a b:Value):argsOk "bytearray.extend" ⟨[a,b],[]⟩:=by unfold argsOk;kernel_rfl
theorem ue{a:Addr}{l:List UInt8}{Q:Unit->Shared->Prop}(hg:A.guards=some [])(g:s.heap.get? a=some (eL l))(h:Q () s):wpS (model prog w) A (Builtin.Bytes.checkResize (.ref a)) Q E s:=by
 unfold Builtin.Bytes.checkResize;refine aa ?_;refine aa (iZ hg ?_);refine aa ?_;unfold Builtin.Bytes.exportsOf;refine aa (ah (wpAny_load g ?_));refine ae (ae ?_);exact ae h
theorem qD{id:String}{f:Bool}{b:Array UInt8}{t:Tok}:Builtin.Bytes.buffer? id (.bytes b t) f=pure (some b):=by
 unfold Builtin.Bytes.buffer?;rw[KBy.special_eq KBy.look_buffer,KBy.own_buffer,KBy.own_release]
 kernel_rfl
theorem oU{id:String}{b:Array UInt8}{t:Tok}:Builtin.Bytes.takeBufferQuiet? id (.bytes b t) 0=pure (some (b,none)):=by
 have e:Builtin.Bytes.takeBuffer? id (.bytes b t) 0=(Builtin.Bytes.buffer? id (.bytes b t) ((0:Int)==Builtin.Bytes.fullReadOnly)>>=λr=>pure (r.map (·,none))):=by
  unfold Builtin.Bytes.takeBuffer?;rw[KBy.special_eq KBy.look_buffer,KBy.own_buffer]
  kernel_rfl
 unfold Builtin.Bytes.takeBufferQuiet?;rw[e,qD]
 kernel_rfl
end
end J.Internal
namespace J.Internal
noncomputable section
def dw(A:Around)(s:Shared)(prog:Program)(w:World)(E:Value->Shared->Prop)(a:Addr)(l:List UInt8)(x:List UInt8)(u:Tok)(Q:Value->Shared->Prop):Prop:=
 ∀(hg:A.guards=some [])(g:s.heap.get? a=some (eL l))(hz:(l++x).length<=sizeLine)(h:Q .none {s with heap:=s.heap.update a (Obj.mapBytearray (·++x.toArray))}),wpS (model prog w) A (call (.builtin "bytearray.extend") [.ref a,.bytes x.toArray u]) Q E s
namespace Kba_extend
def z:=ep (uX dw)
def A:=z.1
def s:=z.2.1
def a:=z.2.2.2.2.2.1
def l:=z.2.2.2.2.2.2.1
def x:=z.2.2.2.2.2.2.2.1
theorem T:dw A s z.2.2.1 z.2.2.2.1 z.2.2.2.2.1 a l x z.2.2.2.2.2.2.2.2.1 z.2.2.2.2.2.2.2.2.2:=by
 intro hg g hz h;refine fZ fa (dQ g) jg (show(!(Builtin.Bytes.decodersThatHold.contains "bytearray.extend"))=true by decide +kernel) ?_ (ke _ _);unfold Builtin.«bytearray.extend»;refine aa (aM (a:=(.ref a,.bytes x.toArray z.2.2.2.2.2.2.2.2.1)) rfl ?_);dsimp only;refine aa (aM (KBy.special_eq KBy.look_buffer) ?_);refine gz rfl ?_;refine aa (jk ?_);refine aa ?_;unfold Builtin.Bytes.payload Builtin.Bytes.payload?;refine aa (aa (ah (wpAny_load g (ae ?_))));refine ae ?_;refine aa (aM oU ?_);dsimp only;refine gz rfl ?_
 have done:wpS (model z.2.2.1 z.2.2.2.1) A.in1 (do Builtin.Bytes.write (.ref a) (·++x.toArray);ret .none) (λfin s'=>∃v,fin = .done (.ret v)/\z.2.2.2.2.2.2.2.2.2 v s') z.2.2.2.2.1 s:=by
  unfold Builtin.Bytes.write updateBytearray;refine aa (ah (wpAny_bind (wpAny_load g ?_)));show wpAny _ _ (update a (Obj.mapBytearray (·++x.toArray))>>=λ_=>lookBehind a) _ _ _;refine wpAny_bind (wpAny_update g ?_);have g2:=Heap.get?_update_self (Obj.mapBytearray (·++x.toArray)) g rfl;refine wpAny_lookBehind g2 ?_ (ae ⟨.none,rfl,h⟩);show(if (l.toArray++x.toArray).size > sizeLine then some "bytearray:memory" else none)=none;rw[if_neg];simp only[List.append_toArray,List.size_toArray];omega
 by_cases hx:x.toArray.isEmpty=true
 ·exact cA (by rw[hx];rfl) done
 ·refine gz (by simp at hx;simp[hx]) (aa (ue (A:=A.in1) hg g done))
end Kba_extend
end
theorem uf{A s prog w E a l x u Q}:dw A s prog w E a l x u Q:=cN (p:=uX dw) Kba_extend.T (A,s,prog,w,E,a,l,x,u,Q)
variable{G:Cx}
variable{F:Av}{A:Around}{ρ:List (Addr × Addr)}{H:Hp}{s:Shared}{h:Heap}{Z:Option (Option Addr)->Prop}
section
variable{sc:Scope}{nm:List Str}{env:Env}{σ:ai}{pos p:Pos}{x:Str}{n:Nat}
theorem kf:typeOf (.builtin "bytearray.extend")=pure (.type "method_descriptor"):=by show builtinType _=_;rw[builtinType_eq_fast];kernel_rfl
theorem Cz{o a:V}{x y:Value}(hg:A.guards=some [])(I:Inv G F A sc nm env ρ H σ s)(ro:TRel G ρ (F.or (aj ρ H)) s.heap o x)(ra:TRel G ρ (F.or (aj ρ H)) s.heap a y) :
  Wps G F al A ρ H s (call (.builtin "bytearray.extend") [x,y]) (RV G F) Z (eD o a H):=
 Bh (P:=λx r=>Wps G F al A ρ H s (call (.builtin "bytearray.extend") [x,y]) (RV G F) Z r) I.sr ro (λ_=>trivial) λi q ob hq ho r=>
  Hl (P:=λob w=>ak H i=some ob->RelO G ρ (F.or (aj ρ H)) s.heap q ob->Wps G F al A ρ H s (call (.builtin "bytearray.extend") [.ref q.1,y]) (RV G F) Z w) (λ_ _=>trivial) (λl ho r=>
   jf ra trivial λb t zb=>Wps.guard λhz=>uf hg r.2 (dO (of_decide_eq_true hz))
    (have u:=da (f:=Obj.mapBytearray (·++b.toArray)) r.2 rfl
    ⟨ρ,Aft.write (a:=q.1) I.sr ⟨_,_,rfl⟩ hq ho (am rfl) (λb n=>eX n) r.2 u (λa m=>m) (λf1 f2=>⟨of_decide_eq_true hz,u.trans (congrArg some (congrArg (λx=>({cls:=_,data:=.bytearray x}:Obj)) (List.append_toArray l b)))⟩),jo⟩)) ho r
theorem lz:PlainAttrs "bytearray" :=
 ⟨⟨"bytearray.__getattribute__", by rw[typeLookup_type,builtinLookup_eq_fast];kernel_rfl,by decide +kernel⟩,by rw[typeLookup_type,builtinLookup_eq_fast];kernel_rfl⟩
theorem qE{a:Addr}{l:List UInt8}{pl:Sem Bool}{Q:Value × List Value->Shared->Prop}{E:Value->Shared->Prop}(g:s.heap.get? a=some (eL l))(h:Q (.builtin "bytearray.extend", [.ref a]) s) :
  wpAny (Md G) A (getMethod (.ref a) "extend" pl) Q E s:=
 getMethod_builtin (dQ g) lz fa kf (λb e=>by cases e;exact⟨_,g,rfl⟩) h
theorem CA{a:Expr}{g:ai->Hp->Out V}{b:V}{x:Value}(rm:Rm n A)(hp:Pl (backTo pos (starEach [a] env)))(ha:lx G F A sc nm env Z (λσ H=>(g σ H).vb λv H1=>.ok [v] H1) (spliced (backTo pos (starEach [a] env))))(I:Inv G F A sc nm env ρ H σ s)(hL:yA b H=true)(r:TRel G ρ (F.or (aj ρ H)) s.heap b x) :
  ∃cal:Value × List Value,(∀(pl:Sem Bool)(Q:Value × List Value->Shared->Prop)(E:Value->Shared->Prop),Q cal s->wpAny (Md G) A (getMethod x "extend" pl) Q E s)/\Wps G F al A ρ H s (callWith pos cal.1 cal.2 (backTo pos (starEach [a] env)) []) (RV G F) Z ((g σ H).vb λy H2=>eD b y H2):=
 qq (P:=λb=>TRel G ρ (F.or (aj ρ H)) s.heap b x->∃cal:Value × List Value,(∀(pl:Sem Bool)(Q:Value × List Value->Shared->Prop)(E:Value->Shared->Prop),Q cal s->wpAny (Md G) A (getMethod x "extend" pl) Q E s)/\Wps G F al A ρ H s (callWith pos cal.1 cal.2 (backTo pos (starEach [a] env)) []) (RV G F) Z ((g σ H).vb λy H2=>eD b y H2)) hL
  (λi o hg hf r=>r.elim λq w=>by
   have ro:=I.sr.rel i q _ w.1 hg;clear hg;revert ro;refine EC (P:=λo=>RelO G ρ (F.or (aj ρ H)) s.heap q o->_) hf λl ro=>?_;refine⟨(.builtin "bytearray.extend", [.ref q.1]),λpl Q E h=>w.2▸qE ro.2 h,gP hp (bZ _) I (ha I) λus v ρ2 H2 s2 a2 I2 r2=>?_⟩
   exact Cz rm.gd I2 (a2.trel (λ_ q=>q.elim) (x:=.obj i) ⟨q,w.1,rfl⟩) r2) r
theorem EO{o a:Expr}{apos:Pos}{f g:ai->Hp->Out V}(rm:Rm n A)(hb:∀id p q,o≠.Call (.Name id p) [] [] q\/(id != "super")=true)(hl:(apos.endLine==pos.line)=true)
  (hp:Pl (backTo pos (starEach [a] env))) (ho:SE G F A sc nm env Z f (eval o env)) (ha:lx G F A sc nm env Z (λσ H=>(g σ H).vb λv H1=>.ok [v] H1) (spliced (backTo pos (starEach [a] env)))) :
  SE G F A sc nm env Z (λσ H=>(f σ H).vb λx H1=>guard (yA x H1) ((g σ H1).vb λy H2=>eD x y H2)) (eval (.Call (.Attribute o "extend" apos) [a] [] pos) env):=λρ H s σ I=>
 eY (k:=λx H1=>guard (yA x H1) ((g σ H1).vb λy H2=>eD x y H2)) hb hl hp (show 1<30 by decide) ho I λx b ρ1 H1 s1 a1 I1 r1=>by
  cases hL:yA b H1 with
  |false=>exact .inl rfl
  |true=>exact .inr (CA rm hp ha I1 hL r1)
end
section
theorem qF:mroOf (.type "bytearray")=pure [.type "bytearray", .type "object"]:=by rw[mroOf_type];kernel_rfl
theorem lA:typeLookup (.type "bytearray") "__new__" = pure (some (.builtin "bytearray.__new__")):=by rw[typeLookup_type,builtinLookup_eq_fast];kernel_rfl
theorem ba_slot_init:Slot "bytearray" "__init__" "bytearray.__init__" :=
 .of (owner := "bytearray") (n := "__init__") (by rw[typeLookup_type,builtinLookup_eq_fast];kernel_rfl) (by decide +kernel) (by decide +kernel) (by decide +kernel)
  (by first|exact .inl (by decide +kernel)|exact .inr (by decide +kernel)) (by rw[isSubtype_type];kernel_rfl)
theorem ba_called:TypeCalled "bytearray" "bytearray.__new__" "bytearray.__init__" :=
 ⟨by decide +kernel,by decide +kernel,⟨_,_,qF⟩,madeBy_type qF lA (by decide +kernel),by decide +kernel,by rw[isSubtype_type];kernel_rfl,ba_slot_init⟩
theorem oV:checkTypeCall "bytearray" ⟨[],[]⟩ = pure ():=by kernel_rfl
theorem qG:checkBuiltinCall "bytearray.__new__" ⟨[.type "bytearray"],[]⟩ = pure ():=by kernel_rfl
theorem mX:entryFor table "bytearray.__new__" = some Builtin.«list.__new__»:=entryFor_alias (id' := "list.__new__") (by rw[fastTable_eq_tree];kernel_rfl) (by decide +kernel) (by decide +kernel) (by rw[fastTable_eq_tree];kernel_rfl)
theorem lB:entryFor table "bytearray.__init__" = some Builtin.«bytearray.__init__»:=by first|exact entryFor_of_fast (by kernel_rfl)|exact entryFor_of_tree (by kernel_rfl)
theorem mY(a:Value):argsOk "bytearray.__init__" ⟨[a],[]⟩:=by unfold argsOk;kernel_rfl
theorem zh:Builtin.Bytes.bindOptional "bytearray.__init__" "bytearray" ["source", "encoding", "errors"] [] []=pure [none,none,none]:=by kernel_rfl
end
end J.Internal
namespace J.Internal
noncomputable section
def fL(A:Around)(s:Shared)(prog:Program)(w:World)(E:Value->Shared->Prop)(a:Addr)(Q:Fin->Shared->Prop):Prop:=
 ∀(hg:A.guards=some [])(g:s.heap.get? a=some (eL []))(h:Q (.done (.ret .none)) {s with heap:=s.heap.update a (Obj.mapBytearray λ_=>#[])}),wpS (model prog w) A (Builtin.«bytearray.__init__» ⟨[.ref a],[]⟩) Q E s
namespace Kba_init
def z:=ep (V7 fL)
def a:=z.2.2.2.2.2.1
theorem T:fL z.1 z.2.1 z.2.2.1 z.2.2.2.1 z.2.2.2.2.1 a z.2.2.2.2.2.2:=by
 intro hg g h;unfold Builtin.«bytearray.__init__»;dsimp only;unfold Builtin.Bytes.ownRelease;refine aa (aa (ah (qC g kb (by decide +kernel) (by decide +kernel) (ae ?_))));refine cA rfl ?_;refine aa (aM zh ?_);dsimp only;refine aa (aM (a:=()) rfl ?_);refine aa (aM (a:=()) rfl ?_);refine aa ?_;refine aa (iZ hg ?_);refine aa ?_;unfold Builtin.Bytes.exportsOf;refine aa (ah (wpAny_load g ?_));refine ae (ae ?_);have g2:=Heap.get?_update_self (Obj.mapBytearray λ_=>#[]) g rfl;refine aa ?_;unfold Builtin.Bytes.write updateBytearray;refine ah (wpAny_bind (wpAny_load g ?_));show wpAny _ _ (update a (Obj.mapBytearray λ_=>#[])>>=λ_=>lookBehind a) _ _ _;refine wpAny_bind (wpAny_update g ?_);refine wpAny_lookBehind g2 rfl ?_;exact aa (ae (ae h))
end Kba_init
end
theorem zi{A s prog w E a Q}:fL A s prog w E a Q:=cN (p:=V7 fL) Kba_init.T (A,s,prog,w,E,a,Q)
variable{A:Around}{s:Shared}{h:Heap}
section
variable{prog:Program}{w:World}{E:Value->Shared->Prop}
set_option maxHeartbeats 4000000 in
theorem mZ:("bytearray.__new__".splitOn ".__new__").headD "" = "bytearray" := by simp +decide [String.splitOn,String.splitOnAux]
theorem gX:plainId "bytearray.__new__" = true:=by decide +kernel
theorem oW{Q₁:Value->Shared->Prop}
  (h:Q₁ (.ref s.heap.objs.size) {s with heap:=s.heap.push (eL [])}) :
  codeAny (model prog w) A (.call (.builtin "bytearray.__new__") ⟨[.type "bytearray"],[]⟩) (wants Q₁ E) s:=by
 refine codeAny_of_tree ?_;show wpAny _ A.in1 (do checkBuiltinCall "bytearray.__new__" ⟨[.type "bytearray"],[]⟩;again (.builtin "bytearray.__new__" ⟨[.type "bytearray"],[]⟩)) _ _ s;refine wpAny_bind (wpAny_of_eq qG (wpAny_pure ⟨plainId_quiet gX _,codeAny_builtin_stack mX rfl λp st=>?_⟩));rw[Around.under_plainId gX _];have hsub:isSubtype (.type "bytearray") (.type "bytearray")=pure true:=by rw[isSubtype_type];kernel_rfl
 have hown:=mZ;obtain⟨hp,g,d,tk,os⟩:=s;dsimp only;rw[hown]
 wp_walk
 exact h
end
end J.Internal
namespace J.Internal
noncomputable section
def fM(A:Around)(s:Shared)(prog:Program)(w:World)(E:Value->Shared->Prop)(Q:Value->Shared->Prop):Prop:=
 ∀(hg:A.guards=some [])(h:Q (.ref s.heap.objs.size) {s with heap:=(s.heap.push (eL [])).update s.heap.objs.size (Obj.mapBytearray λ_=>#[])}),wpS (model prog w) A (call (.type "bytearray") []) Q E s
namespace Kcall_ba
def z:=ep (V6 fM)
def A:=z.1
def s:=z.2.1
def E:=z.2.2.2.2.1
theorem T:fM A s z.2.2.1 z.2.2.2.1 E z.2.2.2.2.2:=by
 intro hg h;refine ds (c7 ?_);show wpS _ _ (callAny (.type "bytearray") _) _ _ _;refine ae ⟨Code.quiet_builtin _ (by decide +kernel),(show(!(Builtin.Bytes.decodersThatHold.contains "type.__call__"))=true by decide +kernel),jL PySem.F.entry_type_call ?_⟩;unfold Builtin.«type.__call__»;refine aa (aM oV ?_);refine aa (aM qF ?_);refine cA rfl ?_;refine aa (aM ba_called.made ?_);dsimp only;refine aa (ae ?_);refine aa (ad (ds (bX (Bd (oW (E:=λ_ _=>False) (Q₁:=λv s'=>v = .ref s.heap.objs.size/\s' = {s with heap:=s.heap.push (eL [])}) ⟨rfl,rfl⟩)) λr s' z=>?_)));rcases r with e|(_|_|_|v)<;>first|exact z.elim|skip
 obtain⟨rfl,rfl⟩:=z;have g0:(s.heap.push (eL [])).get? s.heap.objs.size=some (eL []):=Heap.get?_push_size _ rfl;have hT:({s with heap:=s.heap.push (eL [])}:Shared).TypeIs (.ref s.heap.objs.size) "bytearray" := ⟨_,g0,rfl⟩;dsimp only;refine aa (ah (wpAny_isInstance hT ba_called.sub ?_));refine cA rfl ?_;refine aa (ad ?_);unfold callSpecial?;refine aa (ah (wpAny_specialOf hT ba_slot_init.lookup ?_));dsimp only;refine ad ?_;refine aa (aM (ba_slot_init.bind _) ?_);dsimp only;have hga:(A.under (.builtin "type.__call__" ⟨[.type "bytearray"],[]⟩)).in1.guards=some []:=hg;refine aa (fZ ba_slot_init hT lB (show(!(Builtin.Bytes.decodersThatHold.contains "bytearray.__init__"))=true by decide +kernel) (zi hga g0 ⟨.none,rfl,?_⟩) (mY _));exact ae (cA rfl (ae h))
end Kcall_ba
end
theorem zj{A s prog w E Q}:fM A s prog w E Q:=cN (p:=V6 fM) Kcall_ba.T (A,s,prog,w,E,Q)
variable{G:Cx}
variable{F:Av}{A:Around}{ρ:List (Addr × Addr)}{H:Hp}{s:Shared}{Z:Option (Option Addr)->Prop}
section
variable{sc:Scope}{nm:List Str}{env:Env}{σ:ai}{pos p:Pos}{n:Nat}
theorem CB(rm:Rm n A)(I:Inv G F A sc nm env ρ H σ s):Wps G F al A ρ H s (call (.type "bytearray") []) (RV G F) Z (.ok (.obj H.length) (H++[.ba []])):=by
 refine zj rm.gd ?_
 have hno:s.heap.get? s.heap.objs.size=none:=by
  cases z:s.heap.get? s.heap.objs.size with
  |none=>rfl
  |some o=>exact absurd (Heap.lt_size z) (Mg _)
 have hn:¬ (F.or (aj ρ H)) s.heap.objs.size:=bw I.sr I.ft;have g0:(s.heap.push (eL [])).get? s.heap.objs.size=some (eL []):=Heap.get?_push_size _ rfl;have g1:=da (f:=Obj.mapBytearray λ_=>#[]) g0 rfl;have k:∀b o,s.heap.get? b=some o->((s.heap.push (eL [])).update s.heap.objs.size (Obj.mapBytearray λ_=>#[])).get? b=some o:=λb o e=>(eX (L4 (Heap.lt_size e))).trans (aA b o e);refine⟨ρ++[(s.heap.objs.size,0)],Aft.own I.sr ⟨_,s.toks,rfl⟩ k (λa m=>?_) ?_,_,by rw[<-I.sr.len];exact LO,rfl⟩
 ·replace m:=LJ.mp m
  subst m;exact⟨hno,λf=>hn (.inl f)⟩
 ·exact⟨Mr _,g1.trans rfl⟩
theorem EP(bg:Bg G)(gl:Gl G)(rm:Rm n A)(hx:sc.names.lookup ("bytearray" : Str)=some .globalImplicit)(hv:nsIn G.K mainGlobals "bytearray" = some none) :
  SE G F A sc nm env Z (λ_ H=>.ok (.obj H.length) (H++[.ba []])) (eval (.Call (.Name "bytearray" p) [] [] pos) env):=
 wj (k:=λvs H=>match vs with|[]=>.ok (.obj H.length) (H++[.ba []])|_=>.bad) (g:=λ_ H=>.ok [] H) bg gl (iH "bytearray") hx (by decide +kernel) hv (by decide +kernel) (by decide +kernel) rfl vA λ{us vs ρ1 H1 s1 σ} I1 r1=>by
  cases vs with
  |nil=>rw[show us=[]from r1];exact CB rm I1
  |cons _ _=>trivial
end
end J.Internal
namespace J.Internal
noncomputable abbrev m0(D:Addr):List Value:=[.ref D,.type "Exception", .type "BaseException", .type "object"]
noncomputable abbrev m4(C t:Addr):Obj:={cls:=.ref C,data:=.fields #[.ref t,.none,.none,.none,.bool false,.none]}
noncomputable section
def cu(A:Around)(E:Value->Shared->Prop)(h:Heap)(g:Array GenState)(d:Drawn)(t:Nat)(os:OsState)(nm:Str)(q:Str)(C:Addr)(D:Addr)(N:Addr)(bs:List Value)(hdct:Bool)(sn:List Str)(sub:List Value)(ab:Bool)(col:Option Bool)(dd:Option Addr)(k0:Option Value)(k1:Option Value)(k2:Option Value)(k3:Option Value)(k5:Option Value)(rest:List Value)(Q:Unit->Shared->Prop):Prop:=
 ∀{M:Model}(hC:h.get? C=some (excClassObj nm q C N bs (m0 D) hdct sn sub ab col dd k0 k1 k2 k3 k5 "Exception.__new__"))(hq:Q () ⟨h,g,d,t,os⟩),wpAny M A (checkBuiltinCall "Exception.__new__" ⟨.ref C::rest,[]⟩) Q E ⟨h,g,d,t,os⟩
namespace Kx_check_new
def zz:=ep (Hj cu)
def C:=zz.2.2.2.2.2.2.2.2.2.1
theorem TT:cu zz.1 zz.2.1 zz.2.2.1 zz.2.2.2.1 zz.2.2.2.2.1 zz.2.2.2.2.2.1 zz.2.2.2.2.2.2.1 zz.2.2.2.2.2.2.2.1 zz.2.2.2.2.2.2.2.2.1 C zz.2.2.2.2.2.2.2.2.2.2.1 zz.2.2.2.2.2.2.2.2.2.2.2.1 zz.2.2.2.2.2.2.2.2.2.2.2.2.1 zz.2.2.2.2.2.2.2.2.2.2.2.2.2.1 zz.2.2.2.2.2.2.2.2.2.2.2.2.2.2.1 zz.2.2.2.2.2.2.2.2.2.2.2.2.2.2.2.1 zz.2.2.2.2.2.2.2.2.2.2.2.2.2.2.2.2.1 zz.2.2.2.2.2.2.2.2.2.2.2.2.2.2.2.2.2.1 zz.2.2.2.2.2.2.2.2.2.2.2.2.2.2.2.2.2.2.1 zz.2.2.2.2.2.2.2.2.2.2.2.2.2.2.2.2.2.2.2.1 zz.2.2.2.2.2.2.2.2.2.2.2.2.2.2.2.2.2.2.2.2.1 zz.2.2.2.2.2.2.2.2.2.2.2.2.2.2.2.2.2.2.2.2.2.1 zz.2.2.2.2.2.2.2.2.2.2.2.2.2.2.2.2.2.2.2.2.2.2.1 zz.2.2.2.2.2.2.2.2.2.2.2.2.2.2.2.2.2.2.2.2.2.2.2.1 zz.2.2.2.2.2.2.2.2.2.2.2.2.2.2.2.2.2.2.2.2.2.2.2.2.1 zz.2.2.2.2.2.2.2.2.2.2.2.2.2.2.2.2.2.2.2.2.2.2.2.2.2:=by
 intro M hC hq;have F:=F.excBase_Exception;have hcont:(Value.ref C::m0 zz.2.2.2.2.2.2.2.2.2.2.1).contains (.type "Exception")=true:=by rfl
 have hstar:=F.noStar;simp only[checkBuiltinCall,F.newKind,F.newSplit,F.newRow]
 repeat (first|refine wpAny_loadPart_at hC ?_|(refine wpAny_isSubtype_exc hC ?_;rw[hcont])|refine wpAny_staticBase_exc hC ?_|refine wpAny_madeBy_exc hC ?_|simp -iota only[bne_self_eq_false,Bool.false_eq_true,if_false]|wp_step)
 exact hq
end Kx_check_new
end
theorem oY{A E h g d t os nm q C D N bs hdct sn sub ab col dd k0 k1 k2 k3 k5 rest Q}:cu A E h g d t os nm q C D N bs hdct sn sub ab col dd k0 k1 k2 k3 k5 rest Q:=cN (p:=Hj cu) Kx_check_new.TT (A,E,h,g,d,t,os,nm,q,C,D,N,bs,hdct,sn,sub,ab,col,dd,k0,k1,k2,k3,k5,rest,Q)
section
variable{prog:Program}{w:World}{A:Around}{E:Value->Shared->Prop}{R:Result->Shared->Prop}{h:Heap}{g:Array GenState}{d:Drawn}{t:Nat}{os:OsState}
variable{nm q:Str}{C D N:Addr}{bs:List Value}{hdct:Bool}{sn:List Str}{sub:List Value}{ab:Bool}{col:Option Bool}{dd:Option Addr}{k0 k1 k2 k3 k5:Option Value}
theorem EQ{rest:List Value}(hC:h.get? C=some (excClassObj nm q C N bs (m0 D) hdct sn sub ab col dd k0 k1 k2 k3 k5 "Exception.__new__"))
  (hq:R (.ok (.ret (.ref (h.objs.size+1)))) ⟨(h.push {cls:=.type "tuple", data:=.seq rest.toArray}).push (m4 C h.objs.size),g,d,t,os⟩) (hrest:rest.length<=sizeLine) :
  codeAny (model prog w) A (.builtin "Exception.__new__" ⟨.ref C::rest,[]⟩) R ⟨h,g,d,t,os⟩:=by
 have F:=F.excBase_Exception;have hends:=F.ends;have hcB:(Value.ref C::m0 D).contains (.type "Exception")=true:=by rfl
 have hcA:(Value.ref C::m0 D).contains (.type "AttributeError")=false:=by rfl
 have hcN:(Value.ref C::m0 D).contains (.type "NameError")=false:=by rfl
 refine codeAny_builtinAt F.entry ?_;unfold Builtin.«BaseException.__new__»;refine PySem.wpAt_bind ?_;show PySem.wpAt _ _ _ (stack>>=_) _ _ _;refine PySem.wpAt_bind (PySem.wpAt_stack λp below=>PySem.wpAt_of_wpAny ?_)
 wp_walk
 refine PySem.wpAt_of_wpAny ?_;rw[F.owner]
 repeat (first|with_reducible refine wpAny_madeHere_exc F.canon hC ?_|with_reducible refine wpAny_loadPart_at hC ?_|(with_reducible refine wpAny_isSubtype_exc hC ?_;first|rw[hcB]|rw[hcA]|rw[hcN])|wp_step)
 show R _ _;rw[Heap.size_push];exact hq
noncomputable abbrev f9(h:Heap)(C:Addr)(rest:List Value):Heap:=(h.push {cls:=.type "tuple", data:=.seq rest.toArray}).push (m4 C h.objs.size)
theorem oZ{rest:List Value}{fi:Addr}{Q:Fin->Shared->Prop}(hC:h.get? C=some (excClassObj nm q C N bs (m0 D) hdct sn sub ab col dd k0 k1 k2 k3 k5 "Exception.__new__"))
  (hi:Looks (model prog w) h (typeLookup (.ref C) "__init__") (some (.ref fi))) (hb:∀self,Looks (model prog w) h (bindSpecial (.ref fi) self) (.ref fi,[self]))
  (hq:codeAny (model prog w) A (.call (.ref fi) ⟨.ref (h.objs.size+1)::rest,[]⟩) (λr s'=>r = .ok (.ret .none)/\Q (.done (.ret (.ref (h.objs.size+1)))) s') ⟨f9 h C rest,g,d,t,os⟩) (hrest:rest.length<=sizeLine) :
  wpAny (model prog w) A (Builtin.«type.__call__» ⟨.ref C::rest,[]⟩) Q E ⟨h,g,d,t,os⟩:=by
 have F:=F.excBase_Exception
 repeat (first|with_reducible refine wpAny_loadPart_at hC ?_|with_reducible refine wpAny_madeBy_exc hC ?_|wp_step)
 refine codeAny_call_builtin_code (Code.quiet_builtin _ F.quiet) (oY hC ?_);refine EQ hC ?_ hrest;show wpAny _ _ _ _ _ _;have kk:∀b o,h.get? b=some o->(f9 h C rest).get? b=some o:=λb o e=>Heap.get?_push_of_some _ (Heap.get?_push_of_some _ e);have hC₁:=kk _ _ hC;have hget:(f9 h C rest).get? (h.objs.size+1)=some (m4 C h.objs.size):=by heap_get
 have hcC:(Value.ref C::m0 D).contains (.ref C)=true:=by simp
 unfold isInstance
 repeat (first|with_reducible refine wpAny_loadPart_at hget ?_|(with_reducible refine wpAny_isSubtype_exc hC₁ ?_;rw[hcC])|wp_step)
 show wpAny _ _ (typeLookup (.ref C) _) _ _ _;refine(hi.keeps kk).here ?_;refine wpAny_holding (wpAny_bind (((hb (.ref (h.objs.size+1))).keeps kk).here ?_));refine wpAny_bind (wpAny_call (codeAny_mono hq λr s' z=>?_));obtain⟨rfl,z⟩:=z;exact wpAny_pure (wpAny_pure z)
theorem CC{rest:List Value}{fi:Addr}{Q:Value->Shared->Prop}(hC:h.get? C=some (excClassObj nm q C N bs (m0 D) hdct sn sub ab col dd k0 k1 k2 k3 k5 "Exception.__new__"))
  (hi:Looks (model prog w) h (typeLookup (.ref C) "__init__") (some (.ref fi))) (hb:∀self,Looks (model prog w) h (bindSpecial (.ref fi) self) (.ref fi,[self]))
  (hq:codeAny (model prog w) (A.under (.builtin "type.__call__" ⟨.ref C::rest,[]⟩)) (.call (.ref fi) ⟨.ref (h.objs.size+1)::rest,[]⟩) (λr s'=>r = .ok (.ret .none)/\Q (.ref (h.objs.size+1)) s') ⟨f9 h C rest,g,d,t,os⟩) (hrest:rest.length<=sizeLine) :
  wpAny (model prog w) A (call (.ref C) rest) Q E ⟨h,g,d,t,os⟩:=by
 have f1:=tc_lookup;have f2:=tc_bind (.ref C);have hT:(⟨h,g,d,t,os⟩ : Shared).TypeIs (.ref C) "type" := ⟨_,hC,rfl⟩;refine wpAny_call (codeAny_of_tree ?_);show wpAny _ _ (callAny (.ref C) _) _ _ _
 repeat (any_goals (first|assumption|with_reducible refine wpAny_loadPart_at hC ?_|wp_step))
 refine⟨rfl,?_⟩;refine codeAny_call_builtin_at (Code.quiet_builtin _ (by decide +kernel)) entry_typeCall (wpAny_check_type_call_sub hC (oZ hC hi hb ?_ hrest));exact hq
end
theorem slot_wd_get:Slot "wrapper_descriptor" "__get__" "wrapper_descriptor.__get__" := .of (owner := "wrapper_descriptor") (n := "__get__") (by rw[typeLookup_type,builtinLookup_eq_fast];kernel_rfl) (by decide +kernel) (by decide +kernel) (by decide +kernel)
 (by first|exact .inl (by decide +kernel)|exact .inr (by decide +kernel)) (by rw[isSubtype_type];kernel_rfl)
theorem m5:entryFor table "wrapper_descriptor.__get__" = some Builtin.«wrapper_descriptor.__get__»:=entryFor_of_tree (by kernel_rfl)
theorem o4(a b c:Value):argsOk "wrapper_descriptor.__get__" ⟨[a,b,c],[]⟩:=by unfold argsOk;kernel_rfl
theorem sp:typeOf (.builtin "Exception.__init__")=pure (.type "wrapper_descriptor"):=by kernel_rfl
theorem ug:typeLookup (.type "wrapper_descriptor") "__get__" = pure (some (.builtin "wrapper_descriptor.__get__")):=slot_wd_get.lookup
section
variable{prog:Program}{w:World}{A:Around}{E:Value->Shared->Prop}{h:Heap}{g:Array GenState}{d:Drawn}{t:Nat}{os:OsState}
theorem wn : ".".intercalate ("Exception.__init__".cutAt '.').dropLast = "Exception" := by decide +kernel
noncomputable abbrev i6(x:Addr):Obj:={cls:=.type "method-wrapper", dict:=none,data:=.fields #[.builtin "Exception.__init__", .ref x],slots:=#[]}
theorem CE{x C:Addr}{ox:Obj}{Q:Fin->Shared->Prop}(gx:h.get? x=some ox)(hc:ox.cls = .ref C)(hx:Looks (model prog w) h (isSubtype (.ref C) (.type "Exception")) true)
  (hq:Q (.done (.ret (.ref h.objs.size))) ⟨h.push (i6 x),g,d,t,os⟩) :
  wpAny (model prog w) A (Builtin.«wrapper_descriptor.__get__» ⟨[.builtin "Exception.__init__", .ref x,.ref C],[]⟩) Q E ⟨h,g,d,t,os⟩:=by
 unfold Builtin.«wrapper_descriptor.__get__»
 repeat (first|(with_reducible refine wpAny_loadPart_at gx ?_;rw[hc])|(rw[wn];with_reducible refine Looks.at hx ?_)|wp_step)
 all_goals exact hq
end
noncomputable section
def cU(prog:Program)(w:World)(A:Around)(E:Value->Shared->Prop)(h:Heap)(g:Array GenState)(d:Drawn)(t:Nat)(os:OsState)(so:Addr)(D:Addr)(x:Addr)(C:Addr)(ox:Obj)(l₀:List Value)(l:List Value)(K:Frag)(tk:Tok)(Q:Fin->Shared->Prop):Prop:=
 ∀(hso:h.get? so=some (ks_superObj D x C))(hno:Looks (model prog w) h (opaqueClassAbove (.ref C)) none)(hC:Looks (model prog w) h (mroOf (.ref C)) l₀)(hl:(l₀.dropWhile (· != .ref D)).drop 1=l)(X:K.In h)(hf:alongIn K "__init__" l=some (some (.builtin "Exception.__init__")))(gx:h.get? x=some ox)(hc:ox.cls = .ref C)(hx:Looks (model prog w) h (isSubtype (.ref C) (.type "Exception")) true)(hxC:x≠C)(hq:Q (.done (.ret (.ref h.objs.size))) ⟨h.push (i6 x),g,d,t,os⟩),wpAny (model prog w) A (Builtin.«super.__getattribute__» ⟨[.ref so,.str "__init__" tk],[]⟩) Q E ⟨h,g,d,t,os⟩
namespace Kx_super_ga
def z:=ep (BP cU)
def D:=z.2.2.2.2.2.2.2.2.2.2.1
def x:=z.2.2.2.2.2.2.2.2.2.2.2.1
def C:=z.2.2.2.2.2.2.2.2.2.2.2.2.1
theorem T:cU z.1 z.2.1 z.2.2.1 z.2.2.2.1 z.2.2.2.2.1 z.2.2.2.2.2.1 z.2.2.2.2.2.2.1 z.2.2.2.2.2.2.2.1 z.2.2.2.2.2.2.2.2.1 z.2.2.2.2.2.2.2.2.2.1 D x C z.2.2.2.2.2.2.2.2.2.2.2.2.2.1 z.2.2.2.2.2.2.2.2.2.2.2.2.2.2.1 z.2.2.2.2.2.2.2.2.2.2.2.2.2.2.2.1 z.2.2.2.2.2.2.2.2.2.2.2.2.2.2.2.2.1 z.2.2.2.2.2.2.2.2.2.2.2.2.2.2.2.2.2.1 z.2.2.2.2.2.2.2.2.2.2.2.2.2.2.2.2.2.2:=by
 intro hso hno hC hl X hf gx hc hx hxC hq;have hne:(Value.ref x==Value.ref C)=false:=by simp[hxC]
 have hdt:(ks_superObj D x C).data = .fields #[.ref D,.ref x,.ref C]:=rfl;have f0:(#[.ref D,.ref x,.ref C]:Array Value)[0]? = some (.ref D):=rfl;have f1:(#[.ref D,.ref x,.ref C]:Array Value)[1]? = some (.ref x):=rfl;have f2:(#[.ref D,.ref x,.ref C]:Array Value)[2]? = some (.ref C):=rfl;have hn:(("__init__" : Str)==("__class__" : Str))=false:=by decide
 unfold Builtin.«super.__getattribute__»
 repeat (first
  |(with_reducible refine wpAny_field hso hdt f0 ?_)|(with_reducible refine wpAny_field hso hdt f1 ?_)|(with_reducible refine wpAny_field hso hdt f2 ?_)
  |(with_reducible refine ks_wpAny_notOpaque hno ?_)
  |(with_reducible refine Looks.at hC ?_;rw[hl])
  |(refine ks_forIn_along X (λ_ _=>rfl) rfl ?_ hf)
  |(rw[sp])
  |(rw[ug])
  |((with_reducible refine wpAny_call_entry slot_wd_get ?hT m5 ?hG (o4 _ _ _));(case hT=>exact sp);refine CE gx hc hx ?_)
  |(with_reducible refine⟨_,rfl,?_⟩)
  |(simp only[hn,hne,Bool.or_false,Bool.false_eq_true,if_false])
  |wp_step
  |dsimp only)
 all_goals exact hq
end Kx_super_ga
end
theorem qH{prog w A E h g d t os so D x C ox l₀ l K tk Q}:cU prog w A E h g d t os so D x C ox l₀ l K tk Q:=cN (p:=BP cU) Kx_super_ga.T (prog,w,A,E,h,g,d,t,os,so,D,x,C,ox,l₀,l,K,tk,Q)
section
variable{prog:Program}{w:World}{A:Around}{E:Value->Shared->Prop}{h:Heap}{g:Array GenState}{d:Drawn}{t:Nat}{os:OsState}
theorem kg{so D x C:Addr}{ox:Obj}{l₀ l:List Value}{K:Frag}{pl:Sem Bool}{Q:Value × List Value->Shared->Prop}
  (hso:h.get? so=some (ks_superObj D x C)) (hno:Looks (model prog w) h (opaqueClassAbove (.ref C)) none)
  (hC:Looks (model prog w) h (mroOf (.ref C)) l₀) (hl:(l₀.dropWhile (· != .ref D)).drop 1=l) (X:K.In h)
  (hf:alongIn K "__init__" l=some (some (.builtin "Exception.__init__"))) (gx:h.get? x=some ox) (hc:ox.cls = .ref C) (hx:Looks (model prog w) h (isSubtype (.ref C) (.type "Exception")) true) (hxC:x≠C)
  (hq:Q (.ref h.objs.size,[]) ⟨h.push (i6 x),g,d,t+1,os⟩) :
  wpAny (model prog w) A (getMethod (.ref so) "__init__" pl) Q E ⟨h,g,d,t,os⟩:=by
 have hlk:=F.ks_slot_super_ga.lookup;have hcan:=F.ks_canon_super_ga;have hT:∀t',(⟨h,g,d,t',os⟩ : Shared).TypeIs (.ref so) "super" := λ_=>⟨_,hso,rfl⟩;unfold getMethod;refine wpAny_bind (wpAny_specialOf (hT _) hlk ?_);show wpAny _ _ (if (Manifest.canonical "super.__getattribute__" != "object.__getattribute__")=true then _ else _) _ _ _;rw[if_pos hcan];unfold getAttr getAttrBy;refine wpAny_bind (wpAny_bind (wpAny_mkText (wpAny_holding (wpAny_bind (wpAny_typeOf (hT _) (wpAny_bind (wpAny_of_eq hlk ?_)))))));show wpAny _ _ (getAttrByItsOwn (.ref so) (.str "__init__" t) (.type "super") (.builtin "super.__getattribute__") true false) _ _ _;unfold getAttrByItsOwn hookBefore callGetattribute boundAndCalled;refine wpAny_bind (wpAny_of_eq (show(if onTheHeap (.type "super")then typeLookup (.type "super") "__getattr__" else pure none)=pure none from rfl) ?_);refine wpAny_bind (wpAny_attempt (wpAny_holding ?_));show wpAny _ _ (bindSpecial (.builtin "super.__getattribute__") (.ref so)>>=_) _ _ _;refine wpAny_bind (wpAny_of_eq (F.ks_slot_super_ga.bind _) ?_);refine wpAny_mono (Q:=λv s'=>v = .ref h.objs.size/\s'=⟨h.push (i6 x),g,d,t+1,os⟩) (E:=λ_ _=>False)
  (wpAny_call_entry F.ks_slot_super_ga (hT _) F.ks_entry_super_ga (qH hso hno hC hl X hf gx hc hx hxC ⟨_,rfl,rfl,rfl⟩) (F.ks_gaArgs_super _ _)) (λv s' hv=>?_) λ_ _ z=>z.elim
 obtain⟨rfl,rfl⟩:=hv;exact wpAny_pure (wpAny_pure hq)
end
noncomputable section
def gY(prog:Program)(w:World)(A:Around)(E:Value->Shared->Prop)(h:Heap)(g:Array GenState)(d:Drawn)(t:Nat)(os:OsState)(b:Addr)(x:Addr)(c:Addr)(t0:Addr)(v:Value)(oc:Value)(ocd:Option Addr)(cd:ClassData)(osl:Array (Option Value))(Q:Value->Shared->Prop):Prop:=
 ∀(hb:h.get? b=some (i6 x))(gx:h.get? x=some (m4 c t0))(gc:h.get? c=some {cls:=oc,dict:=ocd,data:=.cls cd,slots:=osl})(hq:∀h',(∀y o,y≠x->h.get? y=some o->h'.get? y=some o)->h'.get? x=some (m4 c h.objs.size)->Q .none ⟨h',g,d,t,os⟩),wpAny (model prog w) A (call (.ref b) [v]) Q E ⟨h,g,d,t,os⟩
namespace Kx_init
def z:=ep (BP gY)
def A:=z.2.2.1
def b:=z.2.2.2.2.2.2.2.2.2.1
theorem T:gY z.1 z.2.1 A z.2.2.2.1 z.2.2.2.2.1 z.2.2.2.2.2.1 z.2.2.2.2.2.2.1 z.2.2.2.2.2.2.2.1 z.2.2.2.2.2.2.2.2.1 b z.2.2.2.2.2.2.2.2.2.2.1 z.2.2.2.2.2.2.2.2.2.2.2.1 z.2.2.2.2.2.2.2.2.2.2.2.2.1 z.2.2.2.2.2.2.2.2.2.2.2.2.2.1 z.2.2.2.2.2.2.2.2.2.2.2.2.2.2.1 z.2.2.2.2.2.2.2.2.2.2.2.2.2.2.2.1 z.2.2.2.2.2.2.2.2.2.2.2.2.2.2.2.2.1 z.2.2.2.2.2.2.2.2.2.2.2.2.2.2.2.2.2.1 z.2.2.2.2.2.2.2.2.2.2.2.2.2.2.2.2.2.2:=by
 intro hb gx gc hq;refine wpAny_call (codeAny_of_tree ?_);show wpAny _ A.in1 (callAny (.ref b) _) _ _ _;unfold callAny;refine wpAny_bind (wpAny_load hb ?_)
 repeat (first|(with_reducible refine wpAny_loadPart_at gc ?_)|wp_step)
 show _/\_;refine⟨Code.quiet_builtin _ (by decide +kernel),codeAny_builtin F.excBase_Exception.initEntry ?_⟩;unfold Builtin.«BaseException.__init__»
 repeat (first|wp_step)
 refine hq _ (λy o ny e=>(Heap.get?_update_ne _ _ _ _ ny).trans (Heap.get?_push_of_some _ e)) ?_;rw[Heap.get?_update_self _ (Heap.get?_push_of_some _ gx) rfl]
 rfl
end Kx_init
end
theorem CF{prog w A E h g d t os b x c t0 v oc ocd cd osl Q}:gY prog w A E h g d t os b x c t0 v oc ocd cd osl Q:=cN (p:=BP gY) Kx_init.T (prog,w,A,E,h,g,d,t,os,b,x,c,t0,v,oc,ocd,cd,osl,Q)
section
theorem zk(x:Value):bindSpecial (.builtin "object.__setattr__") x=pure (.builtin "object.__setattr__", [x]):=F.store_object.slot.bind x
end
noncomputable section
def jr(prog:Program)(w:World)(A:Around)(h:Heap)(g:Array GenState)(d:Drawn)(t:Nat)(os:OsState)(C:Addr)(x:Addr)(name:Str)(v:Value)(tk:Tok)(K:Frag)(D:Addr)(nm:Str)(q:Str)(N:Addr)(bs:List Value)(sn:List Str)(sub:List Value)(ab:Bool)(col:Option Bool)(dd:Option Addr)(k0:Option Value)(k1:Option Value)(k2:Option Value)(k3:Option Value)(k5:Option Value)(ni:String)(ns:List Str)(mA:Str->Option Value)(R:Result->Shared->Prop):Prop:=
 ∀(X:K.In h)(hC:h.get? C=some (excClassObj nm q C N bs (m0 D) true sn sub ab col dd k0 k1 k2 k3 k5 ni))(ht:takerIn K C name=some none)(I:h.Inst x C mA)(hq:∀h' tk',h'.Inst x C (λy=>if y=name then some v else mA y)->
   (∀b o,b≠x->(∀o₀ dx,h.get? x=some o₀->o₀.dict=some dx->b≠dx)->h.get? b=some o->h'.get? b=some o)->
   (∀o₀,h.get? x=some o₀->∃o₁,h'.get? x=some o₁/\o₁.cls=o₀.cls/\o₁.data=o₀.data/\o₁.slots=o₀.slots/\(∀dx,o₀.dict=some dx->o₁.dict=some dx)/\(o₀.dict=none->∃dx,o₁.dict=some dx/\h.get? dx=none))->R (.ok (.ret .none)) ⟨h',g,d,tk',os⟩) (hw:Within mA ns) (hsz:ns.length<1000),codeAny (model prog w) A (.call (.builtin "object.__setattr__") ⟨[.ref x,.str name tk,v],[]⟩) R ⟨h,g,d,t,os⟩
namespace Kx_osa
def z:=ep (Jl jr)
def prog:=z.1
def w:=z.2.1
def A:=z.2.2.1
def h:=z.2.2.2.1
def g:=z.2.2.2.2.1
def d:=z.2.2.2.2.2.1
def t:=z.2.2.2.2.2.2.1
def os:=z.2.2.2.2.2.2.2.1
def C:=z.2.2.2.2.2.2.2.2.1
def x:=z.2.2.2.2.2.2.2.2.2.1
def name:=z.2.2.2.2.2.2.2.2.2.2.1
def v:=z.2.2.2.2.2.2.2.2.2.2.2.1
def tk:=z.2.2.2.2.2.2.2.2.2.2.2.2.1
def q:=z.2.2.2.2.2.2.2.2.2.2.2.2.2.2.2.2.1
def sub:=z.2.2.2.2.2.2.2.2.2.2.2.2.2.2.2.2.2.2.2.2.1
def dd:=z.2.2.2.2.2.2.2.2.2.2.2.2.2.2.2.2.2.2.2.2.2.2.2.1
def R:=z.2.2.2.2.2.2.2.2.2.2.2.2.2.2.2.2.2.2.2.2.2.2.2.2.2.2.2.2.2.2.2.2
set_option tactic.hygienic true in
theorem T:jr prog w A h g d t os C x name v tk z.2.2.2.2.2.2.2.2.2.2.2.2.2.1 z.2.2.2.2.2.2.2.2.2.2.2.2.2.2.1 z.2.2.2.2.2.2.2.2.2.2.2.2.2.2.2.1 q z.2.2.2.2.2.2.2.2.2.2.2.2.2.2.2.2.2.1 z.2.2.2.2.2.2.2.2.2.2.2.2.2.2.2.2.2.2.1 z.2.2.2.2.2.2.2.2.2.2.2.2.2.2.2.2.2.2.2.1 sub z.2.2.2.2.2.2.2.2.2.2.2.2.2.2.2.2.2.2.2.2.2.1 z.2.2.2.2.2.2.2.2.2.2.2.2.2.2.2.2.2.2.2.2.2.2.1 dd z.2.2.2.2.2.2.2.2.2.2.2.2.2.2.2.2.2.2.2.2.2.2.2.2.1 z.2.2.2.2.2.2.2.2.2.2.2.2.2.2.2.2.2.2.2.2.2.2.2.2.2.1 z.2.2.2.2.2.2.2.2.2.2.2.2.2.2.2.2.2.2.2.2.2.2.2.2.2.2.1 z.2.2.2.2.2.2.2.2.2.2.2.2.2.2.2.2.2.2.2.2.2.2.2.2.2.2.2.1 z.2.2.2.2.2.2.2.2.2.2.2.2.2.2.2.2.2.2.2.2.2.2.2.2.2.2.2.2.1 z.2.2.2.2.2.2.2.2.2.2.2.2.2.2.2.2.2.2.2.2.2.2.2.2.2.2.2.2.2.1 z.2.2.2.2.2.2.2.2.2.2.2.2.2.2.2.2.2.2.2.2.2.2.2.2.2.2.2.2.2.2.1 z.2.2.2.2.2.2.2.2.2.2.2.2.2.2.2.2.2.2.2.2.2.2.2.2.2.2.2.2.2.2.2.1 R:=by
 intro X hC ht I hq hw hsz;obtain⟨o,hx,hc,hnc,hd⟩:=I;have SF:=F.store_object;have t1:Looks (model prog w) h (typeOf (.ref x)) (.ref C):=(Looks.ld hx).andThen (hc▸.now)
 have sub:Looks (model prog w) h (isInstance (.ref x) (.type "object")) true:=t1.andThen λA Q E s k q=>by
  obtain⟨hh,gg,dd,tt,oo⟩:=s;exact wpAny_isSubtype_exc (k _ _ hC) q
 refine codeAny_call_builtin SF.slot.plain SF.entry (@check_slot (model prog w) _ _ _ "object.__setattr__" "object" "__setattr__" (.ref x) [.str name tk,v] [] _ SF.kind SF.split sub (SF.args (.ref x) (.str name tk) v) ?_);obtain⟨attr,ha,hr⟩:=Option.bind_eq_some_iff.mp ht
 have L3:Looks (model prog w) h (Builtin.ObjectAttr.storeTaker? attr) none:=by
  cases attr with
  |none=>exact .now
  |some a=>
   obtain⟨b,hb,e⟩:=Option.map_eq_some_iff.mp hr;refine(looks_takesIn X hb).andThen ?_;cases b
   ·exact .now
   ·cases e
 have hpass:=F.store_Exception.passes (.ref x);rw[osa_eq,refuse_eq];refine wpAny_bind (wpAny_bind (t1.here (wpAny_bind (wpAny_mroOf_exc hC ?_))));rw[refuseLoop_ref,refuseLoop_ref,hpass];refine wpAny_pure (wpAny_bind (t1.here (wpAny_bind ((looks_findIn X ha).here (wpAny_bind (L3.here ?_))))));dsimp only;unfold Builtin.ObjectAttr.storeInOwnDict;refine wpAny_bind (wpAny_pure (wpAny_bind (wpAny_bind (wpAny_loadPart_at hx ?_))));rw[hc];refine wpAny_bind (wpAny_bind (wpAny_load hC (wpAny_pure ?_)));dsimp only;rcases hd with ⟨hdn,hmA⟩|⟨dx,hdx,hne,hns⟩
 ·rw[hdn,if_neg (by decide)];dsimp only;rw[if_neg (by simp[typeHasDict])];have hx₁:(h.push {cls:=.type "dict", data:=.dict #[]}).get? x=some o:=Heap.get?_push_of_some _ hx;have hxs:x≠h.objs.size:=L4 (Heap.lt_size hx)
  have go:wpAny (model prog w) A.in1 (do
      let d <-alloc {cls:=Value.type "dict", data:=Data.dict #[]}
      update x λo=>{cls:=o.cls,dict:=some d,data:=o.data,slots:=o.slots}
      dictMade (Value.ref C) x d)
    (λa s'=>wpAny (model prog w) A.in1 (match a with
     |some d=>Builtin.ObjectAttr.storeInDict d (Value.str name tk) name v
     |none=>Builtin.ObjectAttr.noDictFor (Value.ref x) (Value.ref C) name attr.isSome)
     (λfin s'=>match fin with
      |.done f=>R (Except.ok f) s'
      |.again c'=>c'.quiet=true/\codeAny (model prog w) A c' R s') (λe s'=>R (Except.error e) s') s')
    (λe s'=>R (Except.error e) s') {heap:=h,gens:=g,drawn:=d,toks:=t,os:=os}:=by
   refine wpAny_bind (wpAny_alloc' ?_);refine wpAny_bind (wpAny_update' hx₁ ?_);refine wpAny_pure ?_;have hgd:((h.push {cls:=.type "dict", data:=.dict #[]}).update x λo=>{cls:=o.cls,dict:=some h.objs.size,data:=o.data,slots:=o.slots}).get? h.objs.size
     = some {cls:=.type "dict", data:=.dict #[]}:=
    (Heap.get?_update_ne _ _ _ _ hxs.symm).trans (Heap.get?_push_at rfl rfl)
   have hnd:((h.push {cls:=.type "dict", data:=.dict #[]}).update x λo=>{cls:=o.cls,dict:=some h.objs.size,data:=o.data,slots:=o.slots}).Ns h.objs.size (λ_=>none):=
    ⟨_,#[],_,hgd,rfl,λe he=>absurd he (by simp),λ_=>rfl⟩
   show wpAny _ _ (Builtin.ObjectAttr.storeInDict h.objs.size (.str name tk) name v) _ _ _;unfold Builtin.ObjectAttr.storeInDict Builtin.ObjectAttr.newKeyGuard;refine wpAny_bind (wpAny_pure (wpAny_bind (wpAny_nsSet1 (Heap.Ns1.of_empty hnd) λh' hn' hs=>?_)));obtain⟨oD,esD,epD,hoD,hdD,hcD⟩:=hn'.count (Within.cons name v Within.nil);refine wpAny_bind (wpAny_lookBehind hoD (by rw[hdD];exact pastItsLine_dict (LB hcD (by rw[List.length_cons,List.length_nil,sizeLine_eq];omega))) (wpAny_pure ?_))
   have hx':h'.get? x=some {cls:=o.cls,dict:=some h.objs.size,data:=o.data,slots:=o.slots}:=by
    refine(hs.2 x hxs).trans (Heap.get?_update_self _ hx₁ ?_);have hfr:=(Heap.get?_some_iff.mp hx).2;obtain⟨oc,od,odt,osl⟩:=o;cases odt<;>first|rfl|exact hfr
   refine hq h' _ ⟨{cls:=o.cls,dict:=some h.objs.size,data:=o.data,slots:=o.slots},hx',hc,hnc,.inr ⟨h.objs.size,rfl,hxs.symm,?_⟩⟩ (λb ob hbx _ hb=>?_)
    (λo₀ h₀=>by
     obtain rfl:o=o₀:=LM (hx.symm.trans h₀)
     exact⟨_,hx',rfl,rfl,rfl,(λdx e=>by rw[hdn]at e;cases e),λ_=>⟨_,rfl,Heap.get?_none_of_le (LZ _)⟩⟩)
   ·obtain⟨o',es,ep,e1,e2,e3,eu,e4⟩:=hn';exact⟨o',es,ep,e1,e2,e3,eu,λy=>by rw[e4 y];by_cases hy:y=name<;>simp[hy,hmA]⟩
   ·exact(hs.2 b (L4 (Heap.lt_size hb))).trans ((Heap.get?_update_ne _ _ _ _ hbx).trans (Heap.get?_push_of_some _ hb))
  split
  ·rename_i c hcd;exact absurd hcd (hnc c)
  ·exact go
 ·rw[hdx,if_neg (by decide)];refine wpAny_pure ?_;show wpAny _ _ (Builtin.ObjectAttr.storeInDict dx (.str name tk) name v) _ _ _;unfold Builtin.ObjectAttr.storeInDict Builtin.ObjectAttr.newKeyGuard;refine wpAny_bind (wpAny_pure (wpAny_bind (wpAny_nsSet1 hns λh' hn' hs=>?_)));obtain⟨oD,esD,epD,hoD,hdD,hcD⟩:=hn'.count (Within.cons name v hw);refine wpAny_bind (wpAny_lookBehind hoD (by rw[hdD];exact pastItsLine_dict (LB hcD (by rw[List.length_cons,sizeLine_eq];omega))) (wpAny_pure ?_));refine hq h' _ ⟨o,(hs.2 x hne.symm).trans hx,hc,hnc,.inr ⟨dx,hdx,hne,hn'⟩⟩ (λb ob _ hbd hb=>?_)
   (λo₀ h₀=>by
    obtain rfl:o=o₀:=LM (hx.symm.trans h₀)
    exact⟨o,(hs.2 x hne.symm).trans hx,rfl,rfl,rfl,(λ_ e=>e),λe=>by rw[hdx]at e;cases e⟩)
  exact(hs.2 b (hbd o dx hx hdx)).trans hb
end Kx_osa
end
theorem ER{prog w A h g d t os C x name v tk K D nm q N bs sn sub ab col dd k0 k1 k2 k3 k5 ni ns mA R}:jr prog w A h g d t os C x name v tk K D nm q N bs sn sub ab col dd k0 k1 k2 k3 k5 ni ns mA R:=cN (p:=Jl jr) Kx_osa.T (prog,w,A,h,g,d,t,os,C,x,name,v,tk,K,D,nm,q,N,bs,sn,sub,ab,col,dd,k0,k1,k2,k3,k5,ni,ns,mA,R)
section
variable{prog:Program}{w:World}{A:Around}{E:Value->Shared->Prop}{h:Heap}{g:Array GenState}{d:Drawn}{t:Nat}{os:OsState}
theorem lU{C x:Addr}{name:Str}{v:Value}{K:Frag}{D:Addr}{nm q:Str}{N:Addr}{bs:List Value}{sn:List Str}{sub:List Value}{ab:Bool}{col:Option Bool}{dd:Option Addr}{k0 k1 k2 k3 k5:Option Value}{ni:String}{ns:List Str}{mA:Str->Option Value}{Q:Unit->Shared->Prop}
  (X:K.In h) (hC:h.get? C=some (excClassObj nm q C N bs (m0 D) true sn sub ab col dd k0 k1 k2 k3 k5 ni)) (hsa:findIn K (.ref C) "__setattr__" = some (some (.builtin "object.__setattr__"))) (ht:takerIn K C name=some none) (I:h.Inst x C mA)
  (hq:∀h' tk',h'.Inst x C (λy=>if y=name then some v else mA y)->
   (∀b o,b≠x->(∀o₀ dx,h.get? x=some o₀->o₀.dict=some dx->b≠dx)->h.get? b=some o->h'.get? b=some o)->
   (∀o₀,h.get? x=some o₀->∃o₁,h'.get? x=some o₁/\o₁.cls=o₀.cls/\o₁.data=o₀.data/\o₁.slots=o₀.slots/\(∀dx,o₀.dict=some dx->o₁.dict=some dx)/\(o₀.dict=none->∃dx,o₁.dict=some dx/\h.get? dx=none))->Q () ⟨h',g,d,tk',os⟩) (hw:Within mA ns) (hsz:ns.length<1000) :
  wpAny (model prog w) A (setAttr (.ref x) name v) Q E ⟨h,g,d,t,os⟩:=by
 obtain⟨o,hx,hc,_⟩:=id I;have t1:Looks (model prog w) h (typeOf (.ref x)) (.ref C):=(Looks.ld hx).andThen (hc▸.now);unfold setAttr callSpecial? specialOf
 repeat (any_goals (first|assumption|(with_reducible refine Looks.at t1 ?_)|(with_reducible refine Looks.at (looks_findIn X hsa) ?_)|(rw[zk])|wp_step))
 exact ER (t:=t+1) X hC ht I (λh' tk' a b c=>wpAny_pure (wpAny_pure (hq h' tk' a b c))) hw hsz
end
variable{G:Cx}
noncomputable def o5(p:Nat->Pos):List Stmt:=
 [.Expr (.Call (.Attribute (.Call (.Name "super" (p 0)) [] [] (p 1)) "__init__" (p 2)) [.Name "what" (p 3)] [] (p 4)) (p 5),
  .Assign [.Attribute (.Name "self" (p 6)) "what" (p 7)] (.Name "what" (p 8)) (p 9),
  .Assign [.Attribute (.Name "self" (p 10)) "at" (p 11)] (.Name "at" (p 12)) (p 13)]
structure XD where
 C:Addr
 D:Addr
 fi:Addr
 cc:Addr
 cda:Addr
 p:Nat->Pos
 name:Str
 qual:Str
 params:Arguments
 scope:Scope
 dV:Value
 kV:Value
 doc:Value
 pm:Value
 an:Option Addr
 ct:Value
 df:Value
noncomputable abbrev XD.fd(X:XD):FuncData:=ksFn X.name X.qual X.params (o5 X.p) X.scope X.dV X.kV X.doc X.pm X.an (.ref X.cda) X.ct X.cc
structure Xk(G:Cx)(X:XD):Prop where
 cF:G.cF = .ref X.C
 cls:∃nm q N bs sn sub ab col dd k0 k1 k2 k3 k5,G.K.lookup X.C=some (excClassObj nm q X.C N bs (m0 X.D) true sn sub ab col dd k0 k1 k2 k3 k5 "Exception.__new__")
 ini:findIn G.K (.ref X.C) "__init__" = some (some (.ref X.fi))
 ity:typeIn G.K (.ref X.fi)=some (.type "function")
 fn:∃oc od osl,G.K.lookup X.fi=some ⟨oc,od,.func X.fd,osl⟩
 code:codeIn G.K (.ref X.cda) X.qual=true
 binds:∀(e:Addr)(v:Value)(s:Shared),tW G s.heap->BindsTo s X.fd ⟨[.ref e,v],[]⟩ [("self", .ref e),("what", v),("at", X.df)]
 ar:∃ar,(X.params.posonlyargs++X.params.args).head? = some ar/\ar.arg = "self"
 sc1:X.scope.names.lookup ("super" : Str)=some .globalImplicit
 sc2:X.scope.names.lookup ("__class__" : Str)=some .free
 sc3:X.scope.names.lookup ("self" : Str)=some .local
 sc4:X.scope.names.lookup ("what" : Str)=some .local
 sc5:X.scope.names.lookup ("at" : Str)=some .local
 sc6:∀x∈X.scope.names,x.2≠.cell
 cd:X.C≠X.D
 ps:((X.p 2).endLine==(X.p 4).line)=true
 fl:X.scope.isCoroutine=false/\X.scope.isGenerator=false/\X.scope.kind = .function
 cdo:∃ccl cdd vs ccs file tf,G.K.lookup X.cda=some ⟨ccl,cdd,.fields vs,ccs⟩/\vs[2]? = some (.str file tf)/\((G.p.main.file:Str)==file)=true
 cell:∃cl cld csl,G.K.lookup X.cc=some ⟨cl,cld,.cell (some (.ref X.D)),csl⟩
 dcl:∃cdD,clsIn G.K X.D=some cdD
 sup:nsIn G.K mainGlobals "super" = some none
 top:(G.p.main.scope.names.lookup ("super" : Str)).isSome=false
 opq:nsIn G.K cStatics "thirdparty.any" = some none
 sa:findIn G.K (.ref X.C) "__setattr__" = some (some (.builtin "object.__setattr__"))
 tk1:takerIn G.K X.C "what" = some none
 tk2:takerIn G.K X.C "at" = some none
 glob:nsIn G.K mainGlobals "FontFault" = some (some (.ref X.C))
 keep:keepIn G.K (.ref X.C)=true
theorem wo{K:Frag}:alongIn K "__init__" [.type "Exception", .type "BaseException", .type "object"]=some (some (.builtin "Exception.__init__")):=by kernel_rfl
theorem qI:bootBuiltins "super" = some (.type "super"):=by kernel_rfl
section
variable{A:Around}{E:Value->Shared->Prop}{h:Heap}{d:Drawn}
theorem zl{pos:Pos}{b:Addr}{x:Addr}{args:List (Bool × Sem Value)}{v:Value}{Q:Value->Shared->Prop}{s:Shared}(hp:args.any (·.1)=false)(ha:∀(Q':Args->Shared->Prop)(E':Value->Shared->Prop),Q' ⟨[v],[]⟩ s->wpAny (Md G) A (evalArgs (.ref b) true args []) Q' E' s)
  (hb:s.heap.get? b=some (i6 x)) (h:wpAny (Md G) A (call (.ref b) [v]) Q E s):wpAny (Md G) A (callWith pos (.ref b) [] args []) Q E s:=by
 unfold callWith;refine wpAny_bind (wpAny_holding (ha _ _ (wpAny_bind (wpAny_standAt ?_))))
 have kp:Looks (Md G) s.heap (keeperOf (.ref b)) .machine:=by
  unfold keeperOf;refine(Looks.ld (part:=none) hb).andThen ?_;exact Looks.of_pure rfl
 refine wpAny_bind (kp.here ?_);rw[hp];exact wpAny_bind (wpAny_mono h (λr s' q=>wpAny_bind (wpAny_holding (wpAny_point (wpAny_pure q)))) λ_ _ z=>z)
theorem zm{env:Env}{p:Pos}{q:Pos}{v:Value}{b:Addr}{s:Shared}(hn:∀(Q:Value->Shared->Prop)(E:Value->Shared->Prop),Q v s->wpAny (Md G) A (eval (.Name "what" p) env) Q E s)(Q':Args->Shared->Prop)(E':Value->Shared->Prop)(h:Q' ⟨[v],[]⟩ s) :
  wpAny (Md G) A (evalArgs (.ref b) true (backTo q (starEach [.Name "what" p] env)) []) Q' E' s:=by
 have e:backTo q (starEach [.Name "what" p] env)=[(false,eval (.Name "what" p) env)]:=rfl;rw[e];refine evalArgs_kw (rest:=[]) rfl ?_;unfold spliced;refine wpAny_bind (hn _ _ ?_);simp only[Bool.false_eq_true,if_false];exact wpAny_bind (wpAny_pure (wpAny_bind (wpAny_holding (wpAny_pure (wpAny_pure (wpAny_pure h))))))
theorem wq{K:Frag}{C:Addr}{cd:ClassData}(h:clsIn K C=some cd):∃o,K.lookup C=some o/\o.data = .cls cd:=by
 unfold clsIn at h
 cases e:K.lookup C with
 |none=>rw[e]at h;cases h
 |some o=>
  rw[e]at h;obtain⟨c,d,dt,sl⟩:=o;cases dt<;>cases h;exact⟨_,rfl,rfl⟩
end
end J.Internal
namespace J.Internal
noncomputable section
def gZ(G:Cx)(A:Around)(E:Value->Shared->Prop)(X:XD)(e:Addr)(L:Addr)(m:Str->Option Value)(t0:Addr)(Q:Flow->Shared->Prop):Prop:=
 ∀{v:Value}{s:Shared}(xk:Xk G X)(gl:Gl G)(bg:Bg G)(hB:tW G s.heap)(hns:s.heap.Ns L m)(m1:m "self" = some (.ref e))(m2:m "what" = some v)(m3:m "at" = some X.df)(ge:s.heap.get? e=some (m4 X.C t0))(hCe:G.B.get? e=none)(hLe:L≠e)(hq:∀h' tk,(∀b o,b≠e->s.heap.get? b=some o->h'.get? b=some o)->(∃oe vs,h'.get? e=some oe/\oe.cls = .ref X.C/\oe.data = .fields vs/\vs[1]? = some .none)->Q .next {s with heap:=h',toks:=tk}),PySem.wpAt (Md G) A (.func (o5 X.p) (ksEnv X.qual X.scope L X.fi (.ref X.cda) X.cc)) (execs (o5 X.p) (ksEnv X.qual X.scope L X.fi (.ref X.cda) X.cc)) Q E s
namespace Kx_body
def zz:=ep (V9 gZ)
def G:=zz.1
def A:=zz.2.1
def E:=zz.2.2.1
def X:=zz.2.2.2.1
def e:=zz.2.2.2.2.1
def L:=zz.2.2.2.2.2.1
def m:=zz.2.2.2.2.2.2.1
def Q:=zz.2.2.2.2.2.2.2.2
theorem TT:gZ G A E X e L m zz.2.2.2.2.2.2.2.1 Q:=by
 intro v s xk gl bg hB hns m1 m2 m3 ge hCe hLe hq;obtain⟨nm,q,N,bs,sn,sub,ab,col,dd,k0,k1,k2,k3,k5,hC⟩:=xk.cls;obtain⟨oc,od,osl,hfi⟩:=xk.fn;obtain⟨ar,har,hself⟩:=xk.ar;obtain⟨ccl,cdd,vs,ccs,file,tf,hcode,hvs,hfile⟩:=xk.cdo;obtain⟨cl,cld,csl,hcell⟩:=xk.cell;obtain⟨cdD,hD⟩:=xk.dcl;have X0:G.K.In s.heap:=λb o hb=>hB b o (bg.inB b o hb)
 have ne:∀b o,G.B.get? b=some o->b≠e:=λb o hb w=>by
  subst w;rw[hCe]at hb;cases hb
 have IN:∀{h:Heap},(∀b o,b≠e->s.heap.get? b=some o->h.get? b=some o)->tW G h:=λk b o hb=>k b o (ne b o hb) (hB b o hb);have KI:∀{h:Heap},tW G h->G.K.In h:=λk b o hb=>k b o (bg.inB b o hb)
 have nsk:∀{h:Heap},(∀b o,b≠e->s.heap.get? b=some o->h.get? b=some o)->h.Ns L m:=λk=>by
  obtain⟨o,es,ep,g,r⟩:=hns;exact⟨o,es,ep,k _ _ hLe g,r⟩
 have fk:X.scope.kind = .function:=xk.fl.2.2
 have nam:∀{x:Str}{u:Value}{p:Pos}{s1:Shared}{Q':Value->Shared->Prop}{E':Value->Shared->Prop},X.scope.names.lookup x=some .local->m x=some u->(x==("__debug__" : Str))=false->s1.heap.Ns L m->Q' u s1->wpAny (Md G) A (eval (.Name x p) (ksEnv X.qual X.scope L X.fi (.ref X.cda) X.cc)) Q' E' s1:=
  λhl hm hd hn q=>wpAny_Name (wpAny_loadName_local fk hl hn hm q) hd
 obtain⟨mg,hmg⟩:=gl.mg;obtain⟨mb,hmb,hmb'⟩:=gl.mb
 obtain⟨oD,hD1,hD2⟩ : ∃oD,s.heap.get? X.D=some oD/\oD.data = .cls cdD:=by
  obtain⟨o,ho,hd⟩:=wq hD;exact⟨o,X0 _ _ ho,hd⟩
 unfold o5;refine ks_wpAt_execs_cons (PySem.wpAt_mono (Q:=λf s'=>f = .next/\∃h1 tk t1,s' = {s with heap:=h1,toks:=tk}/\(∀b o,b≠e->s.heap.get? b=some o->h1.get? b=some o)/\h1.get? e=some (m4 X.C t1)) (E:=E) ?_ (λf s' q=>?_) λ_ _ z=>z)
 ·refine ks_wpAt_Expr_any (hi:=by unfold interactive;simp[fk]) ?_;rw[arm_eval_Call];have hCs:=X0 _ _ hC
  have hxC:e≠X.C:=λw=>by
   rw[<-w,ge]at hCs;cases hCs
  have Af:Looks (Md G) s.heap (isSubtype (.ref X.C) (.ref X.D)) true:=λA Q E s k q=>by
   obtain⟨hh,gg,dd,tt,oo⟩:=s;refine wpAny_isSubtype_exc (k _ _ hCs) ?_;rw[show(Value.ref X.C::m0 X.D).contains (.ref X.D)=true by simp[m0]];exact q
  refine PySem.wpAt_bind (ks_wpAt_super_base (env:=ksEnv X.qual X.scope L X.fi (.ref X.cda) X.cc) xk.sc1 xk.sc2 (by decide) rfl (X0 _ _ hfi) rfl har rfl (X0 _ _ hcode) rfl hvs hfile xk.top ?_);refine ks_loadName_global fk xk.sc1 (loadGlobal_builtin (env:=ksEnv X.qual X.scope L X.fi (.ref X.cda) X.cc) (Ns.up hmg hB) (mg_none_of X0 (Ns.up hmg hB) xk.sup) (Ns.up hmb hB) ((hmb' _ (by decide)).trans qI) ⟨rfl,?_⟩);refine wpAny_loadName_free fk xk.sc2 (by simp) ⟨_,X0 _ _ hcell,rfl⟩ ?_;rw[hself];refine wpAny_loadName_local fk xk.sc3 hns m1 ?_;obtain⟨hh,g,d,tk,os⟩:=s;refine ks_wpAny_isType_cls hD1 hD2 ⟨rfl,?_⟩;refine ks_wpAny_call_super hD1 hD2 ge rfl (λc w=>by cases w) Af (λh1 gso k1=>?_);dsimp only at ge hns hB Af k1 gso ⊢;have B1:tW G h1:=λb o hb=>k1 b o (hB b o hb);have X1:G.K.In h1:=KI B1;have C1:=X1 _ _ hC;have ns1:h1.Ns L m:=Ns.up hns k1
  have sub2:Looks (Md G) h1 (isSubtype (.ref X.C) (.type "Exception")) true:=λA Q E s k q=>by
   obtain⟨hh,gg,dd,tt,oo⟩:=s;refine wpAny_isSubtype_exc (k _ _ C1) ?_;rw[show(Value.ref X.C::m0 X.D).contains (.type "Exception")=true by rfl];exact q
  have mro1:Looks (Md G) h1 (mroOf (.ref X.C)) (.ref X.C::m0 X.D):=λA Q E s k q=>by
   obtain⟨hh,gg,dd,tt,oo⟩:=s;exact wpAny_mroOf_exc (k _ _ C1) q
  have hdrop:(((Value.ref X.C::m0 X.D).dropWhile (· != .ref X.D)).drop 1)=[.type "Exception", .type "BaseException", .type "object"]:=by
   have:(Value.ref X.C==Value.ref X.D)=false:=by simp[xk.cd]
   simp[List.dropWhile,bne,this]
  refine PySem.wpAt_of_wpAny (wpAny_bind (wpAny_standAt ?_));unfold methodCall;refine wpAny_bind (wpAny_holding ?_);unfold calleeOf;rw[if_pos (by rfl)];refine kg gso (looks_opaque X1 xk.opq) mro1 hdrop X1 wo (k1 _ _ ge) rfl sub2 hxC ?_;dsimp only;unfold methodCallPos;rw[if_pos (by rw[xk.ps];rfl)];refine wpAny_bind (wpAny_pure ?_);have gm:=Heap.get?_push_size (h:=h1) (o:=i6 e) rfl;have k2:∀b o,h1.get? b=some o->(h1.push (i6 e)).get? b=some o:=λb o w=>Heap.get?_push_of_some _ w;refine zl (by rfl) (λQ' E' z=>zm (λQ'' E'' y=>nam xk.sc4 m2 (by decide) (Ns.up ns1 k2) y) Q' E' z) gm ?_;refine CF gm (k2 _ _ (k1 _ _ ge)) (k2 _ _ C1) (λh3 k3 g3=>?_);exact⟨rfl,h3,_,_,rfl,λb o nb w=>k3 b o nb (k2 _ _ (k1 _ _ w)),g3⟩
 ·obtain⟨rfl,h1,tk,t1,rfl,k1,g1⟩:=q;have B1:=IN k1;have C1:=KI B1 _ _ hC
  refine ks_wpAt_execs_cons (PySem.wpAt_mono (Q:=λf s'=>f = .next/\∃h2 tk ns mA oe,s' = {s with heap:=h2,toks:=tk}/\(∀b o,b≠e->s.heap.get? b=some o->h2.get? b=some o)/\h2.Inst e X.C mA/\PySem.Within mA ns/\ns.length<100/\
   h2.get? e=some oe/\oe.cls = .ref X.C/\oe.data=(m4 X.C t1).data/\∀dx,oe.dict=some dx->s.heap.get? dx=none) (E:=E) ?_ (λf s' q=>?_) λ_ _ z=>z)
  ·refine ks_wpAt_Assign_Attr (hs:=de rfl) (PySem.wpAt_of_wpAny (nam xk.sc4 m2 (by decide) (nsk k1) (nam xk.sc3 m1 (by decide) (nsk k1) ?_)));refine lU (ns:=[]) (KI B1) C1 xk.sa xk.tk1 ⟨_,g1,rfl,(λc w=>by cases w),.inl ⟨rfl,λ_=>rfl⟩⟩ (λh2 tk2 I2 k2 g2=>?_) Within.nil (by simp);obtain⟨o1,e1,e2,e3,_,_,e5⟩:=g2 _ g1;obtain⟨dx,e6,e7⟩:=e5 rfl;refine⟨rfl,h2,tk2,_,_,o1,rfl,λb o nb w=>k2 b o nb (λo₀ dx z1 z2=>?_) (k1 b o nb w),I2,Within.cons _ _ Within.nil,by simp,e1,e2,e3,λdx' w=>?_⟩
   ·rw[g1]at z1;cases z1;cases z2
   ·rw[e6]at w;cases w
    cases z:s.heap.get? dx with
    |none=>rfl
    |some o=>
     by_cases w:dx=e
     ·rw[w,g1]at e7;cases e7
     ·rw[k1 _ _ w z]at e7;cases e7
  ·obtain⟨rfl,h2,tk2,ns,mA,oe,rfl,k2,I2,hw,hz,ge2,hc2,hd2,hdx⟩:=q;have B2:=IN k2;have C2:=KI B2 _ _ hC;refine ks_wpAt_execs_cons (PySem.wpAt_mono (Q:=λf s'=>f = .next/\Q .next s') (E:=E) ?_ (λf s' q=>?_) λ_ _ z=>z)
   ·refine ks_wpAt_Assign_Attr (hs:=de rfl) (PySem.wpAt_of_wpAny (nam xk.sc5 m3 (by decide) (nsk k2) (nam xk.sc3 m1 (by decide) (nsk k2) ?_)));refine lU (KI B2) C2 xk.sa xk.tk2 I2 (λh3 tk3 I3 k3 g3=>?_) hw (by omega);obtain⟨o3,e1,e2,e3,_⟩:=g3 _ ge2;refine⟨rfl,hq h3 tk3 (λb o nb w=>k3 b o nb (λo₀ dx z1 z2=>λw2=>?_) (k2 b o nb w)) ⟨o3,_,e1,e2.trans hc2,e3.trans hd2,rfl⟩⟩;rw[ge2]at z1;cases z1;rw[w2,hdx _ z2]at w;cases w
   ·obtain⟨rfl,q⟩:=q;exact PySem.wpAt_of_wpAny (wpAny_pure q)
end Kx_body
end
theorem CG{G A E X e L m t0 Q}:gZ G A E X e L m t0 Q:=cN (p:=V9 gZ) Kx_body.TT (G,A,E,X,e,L,m,t0,Q)
variable{G:Cx}
section
variable{A:Around}{E:Value->Shared->Prop}{h:Heap}{g:Array GenState}{d:Drawn}{t:Nat}{os:OsState}{X:XD}
theorem CH{v:Value}{s:Shared}(xk:Xk G X)(gl:Gl G)(bg:Bg G)(hB:tW G s.heap)(hroom:A.depth+1<recursionLimit){Q:Value->Shared->Prop}
  (hq:∀e h' tk,s.heap.get? e=none->(∀b o,s.heap.get? b=some o->h'.get? b=some o)->(∃oe vs,h'.get? e=some oe/\oe.cls = .ref X.C/\oe.data = .fields vs/\vs[1]? = some .none)->Q (.ref e) {s with heap:=h',toks:=tk}) :
  wpAny (Md G) A (call (.ref X.C) [v]) Q E s:=by
 obtain⟨nm,q,N,bs,sn,sub,ab,col,dd,k0,k1,k2,k3,k5,hC⟩:=xk.cls;obtain⟨oc,od,osl,hfi⟩:=xk.fn;obtain⟨h,g,d,t,os⟩:=s;dsimp only at hB hq;have X0:G.K.In h:=λb o hb=>hB b o (bg.inB b o hb);refine CC (X0 _ _ hC) (looks_findIn X0 xk.ini) (λself=>bind_fn X0 self xk.ity) ?_ (by simp[sizeLine_eq]);have kk:∀b o,h.get? b=some o->(f9 h X.C [v]).get? b=some o:=λb o e=>Heap.get?_push_of_some _ (Heap.get?_push_of_some _ e);have hget:(f9 h X.C [v]).get? (h.objs.size+1)=some (m4 X.C h.objs.size):=by heap_get
 have hno:h.get? (h.objs.size+1)=none:=Heap.get?_none_of_le (Nat.le_succ _);have B1:tW G (f9 h X.C [v]):=λb o hb=>kk b o (hB b o hb);have X1:G.K.In (f9 h X.C [v]):=λb o hb=>kk b o (X0 b o hb);refine ks_codeAny_call_defAt (fd:=X.fd) (body:=o5 X.p) (binds:=[("self", .ref (h.objs.size+1)),("what", v),("at", X.df)]) ?_ (X1 _ _ hfi) rfl (bg.bf.nolimit.keeps B1) (codeRec_of X1 xk.code) rfl (xk.binds _ _ _ B1) xk.sc6 ?_ (λh₀ hns hk=>?_) xk.fl.1 xk.fl.2.1 xk.fl.2.2
 ·rw[jZ];exact hroom
 ·intro y hy;simp only[List.mem_cons,List.not_mem_nil,or_false]at hy;rcases hy with rfl|rfl|rfl
  ·exact xk.sc3
  ·exact xk.sc4
  ·exact xk.sc5
 ·dsimp only at hns hk;have hsz:(f9 h X.C [v]).objs.size=h.objs.size+2:=by simp[f9,Heap.size_push]
  have hB':tW G h₀:=λb o hb=>hk b o (B1 b o hb);refine CG (m:=λx=>([("self", .ref (h.objs.size+1)),("what", v),("at", X.df)]:List (Str × Value)).reverse.lookup x) (t0:=h.objs.size) xk gl bg hB' hns (by rfl) (by rfl) (by rfl) (hk _ _ hget) ?_ (by rw[hsz];exact Nat.ne_of_gt (Nat.lt_succ_self _)) ?_
  ·cases z:G.B.get? (h.objs.size+1)with
   |none=>rfl
   |some o=>have:=hB _ _ z;rw[hno]at this;cases this
  ·intro h' tk k ho;refine⟨rfl,hq _ h' tk hno (λb o e=>?_) ho⟩;refine k b o (λw=>?_) (hk _ _ (kk _ _ e));rw[w,hno]at e;cases e
end
variable{F M:Av}{A:Around}{ρ:List (Addr × Addr)}{H:Hp}{s:Shared}{h h':Heap}
section
variable{sc:Scope}{nm:List Str}{env:Env}{σ:ai}{q:Pos}{x:Str}{I:Addr}{X:XD}
theorem o6{E:Value->Shared->Prop}{t:Sem Value}{Q:Flow->Shared->Prop}(xk:Xk G X)(bg:Bg G)(hh:A.handled=none)
  (h:wpS (Md G) A t (λv s₁=>∃e oe vs,v = .ref e/\tW G s₁.heap/\s₁.heap.get? e=some oe/\oe.cls = .ref X.C/\oe.data = .fields vs/\vs[1]? = some .none/\E (.ref e) s₁) E s) :
  wpS (Md G) A (raiseStmt env (some t) none) Q E s:=by
 obtain⟨nm,q,N,bs,sn,sub,ab,col,dd,k0,k1,k2,k3,k5,hK⟩:=xk.cls;unfold raiseStmt;refine aa (ag h (λv s₁ h₁=>ah ?_) λ_ _ x=>x);obtain⟨e,oe,vs,rfl,hB,he,hc,hd,hv,hE⟩:=h₁;have hC:s₁.heap.get? X.C=some _:=hB _ _ (bg.inB _ _ hK);have hcB:(Value.ref X.C::m0 X.D).contains (.type "BaseException")=true:=by rfl
 obtain⟨hp,g,d,tk,os⟩:=s₁;obtain⟨oc,od,odt,osl⟩:=oe;dsimp only at hc hd he hC;subst hc hd
 repeat (first|with_reducible refine wpAny_loadPart_at he ?_|with_reducible refine wpAny_loadPart_at hC ?_|(with_reducible refine wpAny_isSubtype_exc hC ?_;rw[hcB])|(with_reducible refine wpAny_field he rfl hv ?_)|wp_step)
 exact wpAny_raiseNew_none hh hE
theorem HM{ea:Addr}{tk:Nat}{e:Value}(xk:Xk G X)(I:Inv G F A sc nm env ρ H σ s)(hn:s.heap.get? ea=none)(k:∀b o,s.heap.get? b=some o->h'.get? b=some o)
  (ho:∃oe vs,h'.get? ea=some oe/\oe.cls = .ref X.C/\oe.data = .fields vs/\vs[1]? = some .none) (he:e = .ref ea):EX G F M A ρ H s H none e {s with heap:=h',toks:=tk}:=by
 obtain⟨oe,vs,g1,g2,g3,g4⟩:=ho;refine⟨⟨ea,ρ,λa=>a=ea,he,⟨rfl,oe,vs,g1,by rw[xk.cF];exact g2,g3,g4⟩,λa w=>by rw[w];exact hn,LP _,?_,?_⟩,⟨h',tk,rfl⟩,λb o _ g _=>.of (k b o g),?_⟩
 ·exact I.sr.touch (λa w=>w.imp_right λw=>by rw[w];exact hn) (λb o g _=>k b o g) λb o g=>⟨o,k b o g⟩
 ·exact⟨λb o g _=>k b o g,λb o g=>⟨o,k b o g⟩,λa w=>.inl w⟩
 ·obtain⟨l,e1,q⟩:=I.st;refine⟨l,e1,λen hen=>?_⟩;obtain⟨k1,L1,o,es,ep,e2,f1,g,d⟩:=q en hen;exact⟨k1,L1,o,es,ep,e2,f1,k _ _ g,d⟩
end
end J.Internal
namespace J.Internal
noncomputable section
def js(G:Cx)(F:Av)(A:Around)(sc:Scope)(nm:List Str)(env:Env)(pos:Pos)(np:Pos)(kh:Pos)(n:Nat)(e:Expr)(f:ai->Hp->Out V):Prop:=
 ∀{X:XD}(xk:Xk G X)(gl:Gl G)(bg:Bg G)(rm:Rm n A)(hx:sc.names.lookup ("FontFault" : Str)=some .globalImplicit)(hp:Pl (backTo kh (starEach [e] env)))(h:lx G F A sc nm env (Zl env) (λσ H=>(f σ H).vb λv H1=>.ok [v] H1) (spliced (backTo kh (starEach [e] env)))),SS G F A sc nm env (Zl env) (λσ H=>(f σ H).vb λv H1=>v.onS (λ_=>.exc H1) .bad) (exec (.Raise (some (.Call (.Name "FontFault" np) [e] [] kh)) none pos) env)
namespace Ks_rse
def zz:=ep (BN js)
def G:=zz.1
def F:=zz.2.1
def A:=zz.2.2.1
def env:=zz.2.2.2.2.2.1
def kh:=zz.2.2.2.2.2.2.2.2.1
def e:=zz.2.2.2.2.2.2.2.2.2.2.1
def f:=zz.2.2.2.2.2.2.2.2.2.2.2
theorem TT:js G F A zz.2.2.2.1 zz.2.2.2.2.1 env zz.2.2.2.2.2.2.1 zz.2.2.2.2.2.2.2.1 kh zz.2.2.2.2.2.2.2.2.2.1 e f:=λ{X} xk gl bg rm hx hp h=>
 λρ H s σ I=>by
 have hI:Wps G F al A ρ H s (spliced (backTo kh (starEach [e] env))) (RTs G F) (Zl env) ((f σ H).vb λv H1=>.ok [v] H1):=h I;show Wps G F (Me env) A ρ H s _ _ (Zl env) ((f σ H).vb λv H1=>v.onS (λ_=>.exc H1) .bad)
 cases hf:f σ H with
 |bad=>trivial
 |exc H1=>trivial
 |ok v H1=>
  rw[hf]at hI;refine kS (P:=λv o=>wpS (Md G) A (spliced (backTo kh (starEach [e] env))) (λa s'=>∃ρ',Aft G F al ρ H s ρ' H1 s'/\RTs G F ρ' H1 s'.heap [v] a) (λ_ _=>False) s->Wps G F (Me env) A ρ H s _ _ (Zl env) o) (λ_=>trivial) (λl h'=>?_) hI;show wpS (Md G) A _ (λ_ _=>False) (λe s'=>∃st,Zl env st/\EX G F (Me env) A ρ H s H1 st e s') s;rw[arm_exec_Raise];refine aa (ac (o6 xk bg rm.hd ?_));refine aa ?_;show wpS _ _ (eval (.Call (.Name "FontFault" zz.2.2.2.2.2.2.2.1) [e] [] kh) env) _ _ _;rw[arm_eval_Call_Name'];refine aa (ah (jT bg gl I hx (by decide) xk.glob ?_));refine Bj hp (mG bg xk.keep) (ag h' (λus s1 q=>?_) λ_ _ q=>q.elim);obtain⟨ρ1,a1,v1,r1,rfl,hv,rfl⟩:=q;have I1:=I.aft a1;refine⟨I1.sr.base,ah (CH xk gl bg I1.sr.base (by have:=rm.dp;omega) λea h2 tk hn k ho=>?_)⟩;refine aa (ac (ae ?_));obtain⟨oe,vs,g1,g2,g3,g4⟩:=id ho;refine⟨ea,oe,vs,rfl,λb o g=>k b o (I1.sr.base b o g),g1,g2,g3,g4,none,.inl rfl,?_⟩;exact(HM (A:=A) (M:=al) xk I1 hn k ho rfl|>.trans a1 I.sr I.fr).weak λ_ m=>m.elim
end Ks_rse
end
theorem ES{G F A sc nm env pos np kh n e f}:js G F A sc nm env pos np kh n e f:=cN (p:=BN js) Ks_rse.TT (G,F,A,sc,nm,env,pos,np,kh,n,e,f)
variable{G:Cx}
variable{F M:Av}{A:Around}{ρ ρ':List (Addr × Addr)}{H H':Hp}{s s':Shared}{h:Heap}
section
variable{env:Env}{q rp hp:Pos}{x:Str}
theorem EX.aft{st:Option (Option Addr)}{e:Value}(x:EX G F M A ρ H s H' st e s'):∃ρ',Aft G F M ρ H s ρ' H' s'/\∃ea oe,e = .ref ea/\s'.heap.get? ea=some oe/\oe.cls=G.cF:=by
 obtain⟨⟨ea,ρ',Xs,rfl,⟨hxe,hx⟩,hn,hp,hs,hE⟩,hsm,hfm,hsk⟩:=x;refine⟨ρ',⟨hsm,hp,hs.drop λ_ f=>.inl f,hE,hfm⟩,ea,?_⟩
 cases st with
 |none=>obtain⟨oe,vs,g1,g2,_⟩:=hx;exact⟨oe,rfl,g1,g2⟩
 |some fl=>obtain⟨oe,vs,T,oT,ts,_,g1,g2,_⟩:=hx;exact⟨oe,rfl,g1,g2⟩
theorem dy{Mo:Model}{E:Value->Shared->Prop}{body orelse:Sem Flow}{h₀:ExceptHandler}{hs:List ExceptHandler}{Q:Flow->Shared->Prop}
  (h:wpS Mo A body (λf s₁=>match f with|.next=>wpS Mo A orelse Q E s₁|f=>Q f s₁)
   (λe s₁=>wpS Mo A (noteFrame e env) (λ_ s₂=>wpS Mo A (setFlight e none) (λ_ s₃=>wpS Mo A (handleBy e env (h₀::hs)) Q E s₃) E s₂) E s₁) s) :
  wpS Mo A (tryStmt false body (h₀::hs) orelse [] env) Q E s:=by
 show wpS Mo A (body.attempt>>=_) Q E s;refine aa (jK (ag h (λf s₁ h₁=>?_) λe s₁ h₁=>?_))
 ·cases f<;>first|exact h₁|exact ae h₁
 ·exact aa (ag h₁ (λ_ _ h₂=>aa h₂) λ_ _ x=>x)
theorem lV{Mo:Model}{E:Value->Shared->Prop}{e:Expr}{Q:Flow->Shared->Prop}(h:wpS Mo A (eval e env) (λv s'=>Q (.ret v) s') E s):wpS Mo A (execs [.Return (some e) rp] env) Q E s:=by
 rw[execs_cons];refine aa ?_;rw[arm_exec_Return];exact aa (ac (aa (ag h (λv s' q=>ae (ae q)) λ_ _ q=>q)))
end
end J.Internal
namespace J.Internal
noncomputable section
def hJ(G:Cx)(F:Av)(A:Around)(sc:Scope)(nm:List Str)(env:Env)(pos:Pos)(np:Pos)(rp:Pos)(rp2:Pos)(cp:Pos)(hp:Pos)(k:Nat)(outer:List Env)(e:Expr)(f:ai->Hp->Out V):Prop:=
 ∀{X:XD}(xk:Xk G X)(gl:Gl G)(bg:Bg G)(fr:Fr A env outer)(hx:sc.names.lookup ("FontFault" : Str)=some .globalImplicit)(h:SE G F A sc nm env (Zl env) f (eval e env)),SS G F A sc nm env (Zl env) (λσ H=>match (f σ H).sb λv H1=>.ok (Fl.ret v,σ) H1 with
   |.ok r H1=>.ok r H1
   |.exc H1=>.ok (Fl.ret .none,σ) H1
   |.bad=>.bad) (exec (.Try [.Return (some e) rp] [.ExceptHandler (some (.Name "FontFault" np)) none [.Return (some (.Constant .none k cp)) rp2] hp] [] [] pos) env)
namespace Ks_tryx
def z:=ep (BO hJ)
def G:=z.1
def F:=z.2.1
def A:=z.2.2.1
def env:=z.2.2.2.2.2.1
def cp:=z.2.2.2.2.2.2.2.2.2.2.1
def k:=z.2.2.2.2.2.2.2.2.2.2.2.2.1
def e:=z.2.2.2.2.2.2.2.2.2.2.2.2.2.2.1
theorem T:hJ G F A z.2.2.2.1 z.2.2.2.2.1 env z.2.2.2.2.2.2.1 z.2.2.2.2.2.2.2.1 z.2.2.2.2.2.2.2.2.1 z.2.2.2.2.2.2.2.2.2.1 cp z.2.2.2.2.2.2.2.2.2.2.2.1 k z.2.2.2.2.2.2.2.2.2.2.2.2.2.1 e z.2.2.2.2.2.2.2.2.2.2.2.2.2.2.2:=λ{X} xk gl bg fr hx h=>
 λρ H s σ I=>by
 have hI:=h I;rw[arm_exec_Try]
 cases hf:z.2.2.2.2.2.2.2.2.2.2.2.2.2.2.2 σ H with
 |bad=>
  show Wps _ _ _ _ _ _ _ _ _ _ _;simp only[hf,Out.sb]
  trivial
 |ok v H1=>
  rw[hf]at hI;simp only[hf,Out.sb];have hI':wpS (Md G) A (eval e env) (λa s'=>∃ρ',Aft G F al ρ H s ρ' H1 s'/\RV G F ρ' H1 s'.heap v a) (λ_ _=>False) s:=hI;refine aa (ac (dy (lV (ag hI' (λa s1 q=>?_) λ_ _ q=>q.elim))));obtain⟨ρ1,a1,r1⟩:=q;have I1:=I.aft a1;exact⟨ρ1,a1.weak λ_ m=>m.elim,r1,I1.ev,I1.st⟩
 |exc H1=>
  rw[hf]at hI;simp only[hf,Out.sb];have hI':wpS (Md G) A (eval e env) (λ_ _=>False) (λe s'=>∃st,Zl env st/\EX G F al A ρ H s H1 st e s') s:=hI;refine aa (ac (dy (lV (ag hI' (λa s1 q=>q.elim) λe1 s1 q=>?_))));obtain⟨st,hz,x1⟩:=q;refine ah (wpAny_mono (x1.note fr.hfr fr.hL I.ft (by rw[<-fr.hL];exact hz)) (λ_ s2 x2=>?_) λ_ _ q=>q);refine ah (wpAny_mono (x2.flight I.ft) (λ_ s3 x3=>?_) λ_ _ q=>q);obtain⟨ρ3,a3,ea,oe,rfl,g1,g2⟩:=x3.aft;have I3:=I.aft a3;have I3m:Inv G F (A.mark (some (.ref ea))) z.2.2.2.1 z.2.2.2.2.1 env ρ3 H1 σ s3:=⟨I3.sr,I3.ev,by obtain⟨l,e1,q⟩:=I3.st;exact⟨l,e1,q⟩,I3.ft⟩;obtain⟨nm1,q1,N,bs,sn,sub,ab,col,dd,k0,k1,k2,k3,k5,hK⟩:=xk.cls;have hC:s3.heap.get? X.C=some _:=bg.inH I3.sr _ _ hK;refine ah (wpAny_handleBy_cons (codeAny_handlers_test (jT bg gl I3m hx (by decide) xk.glob ?_)) (by intro q;cases q));obtain⟨hp3,g3,d3,tk3,os3⟩:=s3;refine wpAny_excMatches_sub_self hC g1 (by rw[g2,xk.cF]) (by rfl) (codeAny_handlers_suite ?_);have x3m:EX G F al (A.mark (some (.ref ea))) ρ H s H1 (some none) (.ref ea) ⟨hp3,g3,d3,tk3,os3⟩:=EX.around (A':=A) rfl x3;refine wpAny_mono (x3m.flight I.ft) (λ_ s4 x4=>?_) λ_ _ q=>q;obtain⟨ρ4,a4,_⟩:=x4.aft;have I4:=I.aft a4;show wpAny _ _ (execs [.Return (some (.Constant .none k cp)) z.2.2.2.2.2.2.2.2.2.1] env) _ _ _;rw[execs_cons];refine wpAny_bind ?_;rw[arm_exec_Return];refine wpAny_bind (wpAny_standAt (wpAny_bind ?_));show wpAny _ _ (eval (.Constant .none k cp) env) _ _ _;refine wpAny_pure (wpAny_pure (wpAny_pure ?_));exact⟨ρ4,a4.weak λ_ m=>m.elim,(jo:RV G F ρ4 H1 s4.heap .none .none),I4.ev,I4.st⟩
end Ks_tryx
end
theorem CJ{G F A sc nm env pos np rp rp2 cp hp k outer e f}:hJ G F A sc nm env pos np rp rp2 cp hp k outer e f:=cN (p:=BO hJ) Ks_tryx.T (G,F,A,sc,nm,env,pos,np,rp,rp2,cp,hp,k,outer,e,f)
variable{G:Cx}
variable{F:Av}{A:Around}{ρ:List (Addr × Addr)}{H:Hp}{s:Shared}{h h':Heap}{Z:Option (Option Addr)->Prop}
noncomputable def lk(l:List Nat)(i:Nat):Nat:=(l[i]?).getD 0
theorem iN{l:List Nat}{i c:Nat}(e:(⟨l.toArray⟩ : Str).cps[i]? = some c):lk l i=c:=by
 have:l[i]? = some c:=by simpa using e
 simp[lk,this]
theorem Jv(c d:Nat):decide ((#[c]:Array Nat).toList<(#[d]:Array Nat).toList)=decide (c<d):=by
 by_cases h:c<d
 ·simp[h,List.cons_lt_cons_iff]
 ·simp[h,List.cons_lt_cons_iff]
theorem zo{prog:Program}{w:World}{A:Around}{l:List Nat}:CmpOf prog w A .Lt (SignAt ⟨l.toArray⟩) (λi j=>decide (lk l i<lk l j)):=by
 rintro i j vi vj s Q E ⟨c,u,e1,rfl⟩ ⟨d,t,e2,rfl⟩ h;dsimp only at h;rw[iN e1,iN e2,<-Jv]at h;exact richCompare_gives (op:=.Lt) (typeIs_str s _ u) (typeIs_str s _ t) F.slot_str_lt F.entry_str_lt (F.args_str_lt_2 _ _) (gives_str_lt _ _ u t) (λx=>(by cases x)) h
theorem zp{prog:Program}{w:World}{A:Around}{l:List Nat}:CmpOf prog w A .Gt (SignAt ⟨l.toArray⟩) (λi j=>decide (lk l j<lk l i)):=by
 rintro i j vi vj s Q E ⟨c,u,e1,rfl⟩ ⟨d,t,e2,rfl⟩ h;dsimp only at h;rw[iN e1,iN e2,<-Jv]at h;exact richCompare_gives (op:=.Gt) (typeIs_str s _ u) (typeIs_str s _ t) F.slot_str_gt F.entry_str_gt (F.args_str_gt_2 _ _) (gives_str_gt _ _ u t) (λx=>(by cases x)) h
theorem iO(bt:Nat->Nat->Bool)(f:Nat->Nat->Nat)(x:Nat)(r:List Nat)(hb:∀i j,f (lk (x::r) i) (lk (x::r) j)=if bt j i then lk (x::r) j else lk (x::r) i) :
  ∀k,k<=r.length->argBest bt k<=k/\lk (x::r) (argBest bt k)=(r.take k).foldl f x
 |0,_=>⟨LZ _,by simp[argBest,lk]⟩
 |k+1,h=>by
  obtain⟨h1,h2⟩:=iO bt f x r hb k (by omega)
  have e:r.take (k+1)=r.take k++[lk (x::r) (k+1)]:=by
   rw[List.take_add_one];congr 1;have:k<r.length:=by omega
   simp[lk,this]
  rw[e,List.foldl_append,<-h2];simp only[List.foldl_cons,List.foldl_nil,argBest];rw[hb]
  split
  ·exact⟨LZ _,rfl⟩
  ·exact⟨by omega,rfl⟩
theorem lW{A:Around}{l:List Nat}{t:Tok}{h:Heap}(hh:A.handled=none):∃St,Walks G.p G.w A h.objs.size [h.objs.size] [h.objs.size] l.length (SignAt ⟨l.toArray⟩) St/\St 0 (h.push {cls:=.type (strIterType ⟨l.toArray⟩),data:=.fields #[.str ⟨l.toArray⟩ t,.int 0 0]}):=by
 by_cases ha:(⟨l.toArray⟩ : Str).cps.all (· < 128)
 ·have W:=Walks.strAscii (prog:=G.p) (w:=G.w) (A:=A) hh h.objs.size ⟨l.toArray⟩ t;rw[show(⟨l.toArray⟩ : Str).cps.size=l.length by simp]at W;exact⟨_,W,_,Heap.get?_push_size _ rfl,by simp only[strIterType,ha];rfl,rfl⟩
 ·have W:=Walks.strWide (prog:=G.p) (w:=G.w) (A:=A) hh h.objs.size ⟨l.toArray⟩ t;rw[show(⟨l.toArray⟩ : Str).cps.size=l.length by simp]at W;exact⟨_,W,_,Heap.get?_push_size _ rfl,by simp only[strIterType,ha];rfl,rfl⟩
theorem CK{b:V}{x:Value}(hh:A.handled=none)(sr:SR G F ρ H s.heap)(r:TRel G ρ (F.or (aj ρ H)) s.heap b x):Wps G F al A ρ H s (call (fB .min) [x]) (RV G F) Z (bG .min b H):=by
 cases b with
 |str l=>
  obtain⟨z,t,rfl⟩:=eV r
  cases l with
  |nil=>trivial
  |cons c l=>
   refine ah (call_min_walk (wpAny_pyIter_strU ?_));obtain⟨St,W,st⟩:=lW (G:=G) (A:=A.in1) (l:=c::l) (t:=t) (h:=s.heap) hh;refine⟨_,_,_,_,_,St,_,rfl,W,st,λb hb=>?_,by simp,zo,λv h' tk hv k=>?_⟩
   ·simp only[List.mem_singleton]at hb;subst hb;show s.heap.objs.size<(s.heap.push _).objs.size;rw[Heap.size_push];exact Nat.lt_succ_self _
   ·refine⟨ρ,.keeps sr ⟨h',tk,rfl⟩ λb o e=>k b o (λm=>?_) (Heap.get?_push_of_some _ e),?_⟩
    ·simp only[List.mem_singleton]at m;subst m;exact absurd (Heap.lt_size e) (Mg _)
    ·obtain⟨d,u,e,rfl⟩:=hv;have:=(iO (λi j=>decide (lk (c::l) i<lk (c::l) j)) (λa b=>if b<a then b else a) c l (λi j=>by by_cases q:lk (c::l) j<lk (c::l) i<;>simp[q]) l.length (LZ _)).2;rw[List.take_length]at this;rw[show(c::l).length - 1=l.length by simp]at e;rw[iN e]at this;rw[<-this];show Rel _ _ _ _ _;show _/\∃t,_;exact⟨by simp[aq],u,rfl⟩
 |_=>trivial
theorem CL{b:V}{x:Value}(hh:A.handled=none)(sr:SR G F ρ H s.heap)(r:TRel G ρ (F.or (aj ρ H)) s.heap b x):Wps G F al A ρ H s (call (fB .max) [x]) (RV G F) Z (bG .max b H):=by
 cases b with
 |str l=>
  obtain⟨z,t,rfl⟩:=eV r
  cases l with
  |nil=>trivial
  |cons c l=>
   refine ah (call_max_walk (wpAny_pyIter_strU ?_));obtain⟨St,W,st⟩:=lW (G:=G) (A:=A.in1) (l:=c::l) (t:=t) (h:=s.heap) hh;refine⟨_,_,_,_,_,St,_,rfl,W,st,λb hb=>?_,by simp,zp,λv h' tk hv k=>?_⟩
   ·simp only[List.mem_singleton]at hb;subst hb;show s.heap.objs.size<(s.heap.push _).objs.size;rw[Heap.size_push];exact Nat.lt_succ_self _
   ·refine⟨ρ,.keeps sr ⟨h',tk,rfl⟩ λb o e=>k b o (λm=>?_) (Heap.get?_push_of_some _ e),?_⟩
    ·simp only[List.mem_singleton]at m;subst m;exact absurd (Heap.lt_size e) (Mg _)
    ·obtain⟨d,u,e,rfl⟩:=hv;have:=(iO (λi j=>decide (lk (c::l) j<lk (c::l) i)) (λa b=>if a<b then b else a) c l (λi j=>by by_cases q:lk (c::l) i<lk (c::l) j<;>simp[q]) l.length (LZ _)).2;rw[List.take_length]at this;rw[show(c::l).length - 1=l.length by simp]at e;rw[iN e]at this;rw[<-this];show Rel _ _ _ _ _;show _/\∃t,_;exact⟨by simp[aq],u,rfl⟩
 |_=>trivial
theorem wr{β:Type}{Mo:Model}{E:Value->Shared->Prop}{n:Nat}{f:Nat->β->Sem (ForInStep β)}(I:Nat->β->Prop){c:β}{Q:β->Shared->Prop}
  (hs:∀i c,i<n->I i c->∀Q':ForInStep β->Shared->Prop,(∀c',I (i+1) c'->Q' (.yield c') s)->wpAny Mo A (f i c) Q' E s) (h0:I 0 c) (hq:∀c,I n c->Q c s):wpAny Mo A (forIn [0:n] c f) Q E s:=by
 rw[Std.Legacy.Range.forIn_eq_forIn_range']
 have go:∀k i c,i+k=n->I i c->wpAny Mo A (forIn (List.range' i k 1) c f) Q E s:=by
  intro k
  induction k with
  |zero=>exact λi c e hi=>wpAny_pure (hq c (e▸hi))
  |succ k ih=>
   intro i c e hi;rw[List.range'_succ,List.forIn_cons];refine wpAny_bind (hs i c (by omega) hi _ λc' h'=>?_);exact ih (i+1) c' (by lia) h'
 have hsz:([0:n]:Std.Legacy.Range).size=n:=by simp[Std.Legacy.Range.size]
 show wpAny Mo A (forIn (List.range' 0 ([0:n]:Std.Legacy.Range).size 1) c f) Q E s;rw[hsz];exact go n 0 c (by lia) h0
theorem ki:Slot "bytes" "join" "bytes.join" :=
 .of (owner := "bytes") (n := "join") (by rw[typeLookup_type,builtinLookup_eq_fast];kernel_rfl) (by decide +kernel) (by decide +kernel) (by decide +kernel) (by first|exact .inl (by decide +kernel)|exact .inr (by decide +kernel)) (by rw[isSubtype_type];kernel_rfl)
theorem o7:entryFor table "bytes.join" = some Builtin.«bytes.join»:=entryFor_of_tree (by kernel_rfl)
theorem qJ(a b:Value):argsOk "bytes.join" ⟨[a,b],[]⟩:=by unfold argsOk;kernel_rfl
section
variable{E:Value->Shared->Prop}
inductive BytsAre:List Value->List (List UInt8)->Prop
 |nil:BytsAre [] []
 |cons {b:List UInt8} {t:Tok} {vs bs}:BytsAre vs bs->BytsAre (.bytes b.toArray t::vs) (b::bs)
theorem BytsAre.length{vs:List Value}{bs:List (List UInt8)}(h:BytsAre vs bs):vs.length=bs.length:=by
 induction h with
 |nil=>rfl
 |cons _ ih=>simp[ih]
theorem BytsAre.get{vs:List Value}{bs:List (List UInt8)}(h:BytsAre vs bs):∀i,i<bs.length->∃b t,bs[i]? = some b/\vs[i]? = some (.bytes b.toArray t):=by
 induction h with
 |nil=>intro i hi;simp at hi
 |cons _ ih=>
  intro i hi
  cases i with
  |zero=>exact⟨_,_,rfl,rfl⟩
  |succ i=>
   obtain⟨b,t,e1,e2⟩:=ih i (by simpa using hi);exact⟨b,t,by simpa using e1,by simpa using e2⟩
theorem qK(ps:List (Array UInt8)):Builtin.Bytes.joined #[] ps=(ps.map (·.toList)).flatten.toArray:=by
 unfold Builtin.Bytes.joined
 have:∀(ps:List (Array UInt8))(k:Nat)(acc:Array UInt8),((ps.zipIdx k).foldl (λout (p,i)=>(if i > 0 then out++#[]else out)++p) acc)=acc++(ps.map (·.toList)).flatten.toArray:=by
  intro ps
  induction ps with
  |nil=>intro k acc;simp
  |cons p ps ih=>
   intro k acc;rw[List.zipIdx_cons,List.foldl_cons,ih];simp only[Array.append_empty,ite_self,List.map_cons,List.flatten_cons];apply Array.ext';simp
 rw[this];simp
theorem zq{Mo:Model}{A:Around}{s:Shared}{k:List Value}{Q:Unit->Shared->Prop}:∀{l:List (Value × Option Value)},(∀x∈l,x.2=none)->Q () s->wpAny Mo A (Builtin.Bytes.joinLetGo l k) Q E s:=by
 intro l
 induction l with
 |nil=>
  intro _ q;exact wpAny_pure q
 |cons pp l ih=>
  obtain⟨x,u⟩:=pp;intro h q;have:u=none:=h (x,u) (by simp);subst this;unfold Builtin.Bytes.joinLetGo;exact wpAny_bind (wpAny_letGo (ih (λy hy=>h y (by simp[hy])) q))
theorem wt:∀(ps:List (Array UInt8))(k:Nat),ps.foldl (λa p=>a+p.size) k=k+(ps.map (·.toList)).flatten.length:=by
 intro ps
 induction ps with
 |nil=>
  intro k;simp
 |cons p ps ih=>
  intro k;rw[List.foldl_cons,ih];simp;lia
end
end J.Internal
namespace J.Internal
noncomputable section
def jt(A:Around)(prog:Program)(w:World)(E:Value->Shared->Prop)(a:Addr)(t:Tok)(Q:Value->Shared->Prop):Prop:=
 ∀{s:Shared}{vs:List Value}{m:Nat}{bs:List (List UInt8)}(g:s.heap.get? a=some (bD vs m))(hb:BytsAre vs bs)(hz:bs.flatten.length<=aq)(hq:∀u k,Q (.bytes bs.flatten.toArray u) {s with toks:=k}),wpAny (model prog w) A (call (.builtin "bytes.join") [.bytes #[] t,.ref a]) Q E s
namespace Kbjoin
def zz:=ep (V7 jt)
def A:=zz.1
def prog:=zz.2.1
def w:=zz.2.2.1
def E:=zz.2.2.2.1
def a:=zz.2.2.2.2.1
def t:=zz.2.2.2.2.2.1
theorem TT:jt A prog w E a t zz.2.2.2.2.2.2:=by
 intro s vs m bs g hb hz hq;refine wpAny_call_entry ki (show s.TypeIs (.bytes #[] t) "bytes" from by rfl) o7 ?_ (qJ _ _);unfold Builtin.«bytes.join» Builtin.Bytes.joinM;refine wpAny_bind (wpAny_of_eq (a:=(.bytes #[] t,.ref a)) rfl ?_);dsimp only
 have tj:Looks (model prog w) s.heap (Builtin.Bytes.joinItems (.ref a)) (.ref a):=by
  unfold Builtin.Bytes.joinItems;exact((Looks.ld g).andThen .now).andThen (Looks.of_pure rfl)
 rw[if_pos (by rfl)];refine wpAny_bind (tj.here (wpAny_bind (wpAny_seqItems g rfl ?_)));dsimp only;rw[if_pos (by rfl)]
 by_cases h1:∃x,vs=[x]
 ·obtain⟨x,rfl⟩:=h1
  cases hb with
  |cons hb'=>
   cases hb';refine wpAny_bind (wpAny_pure ?_);rw[if_pos (by rfl)];refine wpAny_bind (wpAny_rule (wpAny_pure ⟨_,rfl,?_⟩));have:=hq ‹Tok› s.toks;simp only[List.flatten_cons,List.flatten_nil,List.append_nil]at this;exact this
 ·have loop:∀{f:Nat->Array (Array UInt8) × List (Value × Option Value)->Sem (ForInStep (Array (Array UInt8) × List (Value × Option Value)))}{k:Array (Array UInt8) × List (Value × Option Value)->Sem PySem.Fin}{Q':PySem.Fin->Shared->Prop},
    (∀i ps tk b u,i<vs.length->bs[i]? = some b->vs.toArray.getD i .none = .bytes b.toArray u->(∀x∈tk,x.2=none/\x.1.onHeap=false)->∀Q'':ForInStep (Array (Array UInt8) × List (Value × Option Value))->Shared->Prop,
     Q'' (.yield (ps.push b.toArray,tk++[(.bytes b.toArray u,none)])) s->wpAny (model prog w) A.in1 (f i (ps,tk)) Q'' E s)->
    (∀ps tk,ps.toList.map (·.toList)=bs->(∀x∈tk,x.2=none/\x.1.onHeap=false)->wpAny (model prog w) A.in1 (k (ps,tk)) Q' E s)->
    wpAny (model prog w) A.in1 (forIn [:vs.toArray.size] (#[],[]) f>>=k) Q' E s:=by
   intro f k Q' hf hk;refine wpAny_bind (wr (λi c=>c.1.toList.map (·.toList)=bs.take i/\∀x∈c.2,x.2=none/\x.1.onHeap=false) ?_ ⟨by simp,by simp⟩ ?_)
   ·rintro i ⟨ps,tk⟩ hi ⟨h1,h2⟩ Q'' q';have hi':i<bs.length:=by rw[<-hb.length];simpa using hi
    obtain⟨b,u,e1,e2⟩:=hb.get i hi';refine hf i ps tk b u (by simpa using hi) e1 (by simp[e2]) h2 Q'' (q' _ ⟨?_,?_⟩)
    ·rw[List.take_add_one,e1];dsimp only at h1;simp[h1]
    ·intro y hy;rcases Mm.mp hy with hy|hy
     ·exact h2 y hy
     ·simp only[List.mem_singleton]at hy;subst hy;exact⟨rfl,rfl⟩
   ·rintro⟨ps,tk⟩ ⟨h1,h2⟩;have hl:vs.toArray.size=bs.length:=by simp[hb.length]
    dsimp only at h1;rw[hl,List.take_length]at h1;exact hk ps tk h1 h2
  have hlong:∀ps:Array (Array UInt8),ps.toList.map (·.toList)=bs->Builtin.Bytes.tooLong (ps.foldl (λa p=>a+p.size) ((#[]:Array UInt8).size*(ps.size - 1)))=false:=by
   intro ps h1;unfold Builtin.Bytes.tooLong;rw[<-Array.foldl_toList,wt,h1];have:aq<=sizeLine:=by decide
   rw[decide_eq_false_iff_not];simp only[List.size_toArray,List.length_nil,Nat.zero_mul,Nat.zero_add];omega
  rcases vs with _|⟨x,_|⟨y,r⟩⟩
  case cons.nil=>exact absurd ⟨x,rfl⟩ h1
  all_goals
   refine loop ?_ ?_
   ·intro i ps tk b u hi e1 e3 h2 Q'' q'';dsimp only;refine wpAny_bind (wpAny_seqItems g rfl ?_);dsimp only;rw[e3]
    rw[if_neg (by
     rw[Bool.or_eq_true];rintro(w|w)
     ·exact absurd w (by decide)
     ·obtain⟨y,hy,hw⟩:=List.any_eq_true.mp w
      rw[(h2 y hy).2]at hw;cases hw)]
    refine wpAny_bind (wpAny_holding (wpAny_of_eq oU ?_));dsimp only;refine wpAny_bind (wpAny_seqItems g rfl ?_);dsimp only;rw[if_neg (by simp)];exact wpAny_pure q''
   ·intro ps tk h2 h3;dsimp only;refine wpAny_bind (wpAny_of_eq (a:=(#[]:Array UInt8)) rfl ?_);rw[hlong ps h2,if_neg (by decide)];rw[qK,h2];refine wpAny_bind ?_;refine wpAny_mkBytes ?_ (by simp only[List.size_toArray];exact dO hz);refine wpAny_bind (wpAny_holding (wpAny_point ?_));exact wpAny_bind (zq (λy hy=>(h3 y hy).1) (wpAny_pure ⟨_,rfl,hq _ _⟩))
end Kbjoin
end
theorem ET{A prog w E a t Q}:jt A prog w E a t Q:=cN (p:=V7 jt) Kbjoin.TT (A,prog,w,E,a,t,Q)
variable{G:Cx}
variable{F:Av}{A:Around}{ρ:List (Addr × Addr)}{H:Hp}{s:Shared}{h:Heap}{Z:Option (Option Addr)->Prop}
section
variable{sc:Scope}{nm:List Str}{env:Env}{σ:ai}{pos p cp:Pos}{x:Str}{k:Nat}
theorem uh{X:Av}{xs:List V}:∀{us:List Value}{l:List UInt8},J.Internal.joinB xs=some l->RelL G X h xs us->∃bs,BytsAre us bs/\bs.flatten=l:=by
 induction xs with
 |nil=>intro us l e r;cases e;exact(show us=[]from r)▸⟨[],.nil,rfl⟩
 |cons x xs ih=>
  intro us l e r;exact bY r λv q rx rr=>jf (d:=none) (f:=λl=>(J.Internal.joinB xs).map (l++·)) (P:=λv o=>o=some l->∃bs,BytsAre (v::q) bs/\bs.flatten=l) (aF (ρ:=[]) rx) (λw=>(by cases w))
   (λl0 t z e=>lw e λl1 e1 e2=>(ih e1 rr).elim λbs h=>⟨l0::bs,.cons h.1,e2▸congrArg (l0++·) h.2⟩) e
theorem wu{b:V}{v:Value}{t:Tok}(sr:SR G F ρ H s.heap)(r:TRel G ρ (F.or (aj ρ H)) s.heap b v) :
  Wps G F al A ρ H s (call (.builtin "bytes.join") [.bytes #[] t,v]) (RV G F) Z (b.onL (λxs=>bo (J.Internal.joinB xs) λl=>guard (decide (l.length<=aq)) (.ok (.byt l) H)) .bad):=
 wL r trivial λxs a us m z nx g lr=>mB trivial λl hj=>Wps.guard λhg=>(uh hj lr).elim λbs q=>by
  cases q.2;exact ah (ET g q.1 (of_decide_eq_true hg) λu k=>⟨ρ,.toks sr k,of_decide_eq_true hg,u,rfl⟩)
theorem qL:typeOf (.builtin "bytes.join")=pure (.type "method_descriptor"):=by show builtinType _=_;rw[builtinType_eq_fast];kernel_rfl
theorem kj:PlainAttrs "bytes" :=
 ⟨⟨"bytes.__getattribute__", by rw[typeLookup_type,builtinLookup_eq_fast];kernel_rfl,by decide +kernel⟩,by rw[typeLookup_type,builtinLookup_eq_fast];kernel_rfl⟩
theorem m6{l:Array UInt8}{t:Tok}{pl:Sem Bool}{Q:Value × List Value->Shared->Prop}{E:Value->Shared->Prop}(h:Q (.builtin "bytes.join", [.bytes l t]) s) :
  wpAny (Md G) A (getMethod (.bytes l t) "join" pl) Q E s:=
 getMethod_builtin (show s.TypeIs (.bytes l t) "bytes" from by rfl) kj ki qL (λb e=>by cases e) h
theorem m7{l:Str}{t:Tok}{pl:Sem Bool}{Q:Value × List Value->Shared->Prop}{E:Value->Shared->Prop}(h:Q (.builtin "str.join", [.str l t]) s) :
  wpAny (Md G) A (getMethod (.str l t) "join" pl) Q E s:=
 getMethod_builtin (show s.TypeIs (.str l t) "str" from by rfl) F.plainAttrs_str F.slot_str_join F.type_str_join (λb e=>by cases e) h
noncomputable def jB(x:V)(H1:Hp):Out V:=x.onL (λxs=>bo (J.Internal.joinB xs) λl=>guard (decide (l.length<=aq)) (.ok (.byt l) H1)) .bad
noncomputable def KT(x:V)(y:Out V):Out V:=x.onY (λl=>l.casesOn y λ_ _=>.bad) .bad
theorem zr{a:Expr}{apos:Pos}{g:ai->Hp->Out V}(hl:(apos.endLine==pos.line)=true)(hp:Pl (backTo pos (starEach [a] env)))
  (ha:lx G F A sc nm env Z (λσ H=>(g σ H).vb λv H1=>.ok [v] H1) (spliced (backTo pos (starEach [a] env)))) :
  SE G F A sc nm env Z (λσ H=>(g σ H).vb jB) (eval (.Call (.Attribute (.Constant (.bytes []) k cp) "join" apos) [a] [] pos) env):=λρ H s σ I=>
 eY (o:=.Constant (.bytes []) k cp) (name := "join") (f:=λ_ H=>.ok (.byt []) H) (k:=λb H1=>KT b ((g σ H1).vb jB)) (Z:=Z) (λid p q=>.inl (λw=>(by cases w))) hl hp (show 1<30 by decide) (λρ H s σ I=>vf (l:=[]) I.sr (by decide)) I λx b ρ1 H1 s1 a1 I1 r1=>
  jf (P:=λx o=>o = .bad\/∃cal:Value × List Value,(∀(pl:Sem Bool)(Q:Value × List Value->Shared->Prop)(E:Value->Shared->Prop),Q cal s1->wpAny (Md G) A (getMethod x "join" pl) Q E s1)/\Wps G F al A ρ1 H1 s1 (callWith pos cal.1 cal.2 (backTo pos (starEach [a] env)) []) (RV G F) Z o) r1 (.inl rfl)
   λl t _=>match l with
    |[]=>.inr ⟨(.builtin "bytes.join", [.bytes #[] t]),λpl Q E h=>m6 h,gP hp (bZ _) I1 (ha I1) λu v ρ2 H2 s2 a2 I2 r2=>wu I2.sr r2⟩
    |_::_=>.inl rfl
noncomputable def jS(x:V)(H1:Hp):Out V:=x.onL (λxs=>bo (J.Internal.joinS xs) λl=>guard (decide (l.length<=aq)) (.ok (.str l) H1)) .bad
noncomputable def KU(x:V)(y:Out V):Out V:=x.onS (λl=>l.casesOn y λ_ _=>.bad) .bad
theorem zt{a:Expr}{apos:Pos}{g:ai->Hp->Out V}(hl:(apos.endLine==pos.line)=true)(hp:Pl (backTo pos (starEach [a] env)))
  (ha:lx G F A sc nm env Z (λσ H=>(g σ H).vb λv H1=>.ok [v] H1) (spliced (backTo pos (starEach [a] env)))) :
  SE G F A sc nm env Z (λσ H=>(g σ H).vb jS) (eval (.Call (.Attribute (.Constant (.str ⟨#[]⟩) k cp) "join" apos) [a] [] pos) env):=λρ H s σ I=>
 eY (o:=.Constant (.str ⟨#[]⟩) k cp) (name := "join") (f:=λ_ H=>.ok (.str []) H) (k:=λb H1=>KU b ((g σ H1).vb jS)) (Z:=Z) (λid p q=>.inl (λw=>(by cases w))) hl hp (show 1<30 by decide) (λρ H s σ I=>ve (l:=[]) I.sr (by decide)) I λx b ρ1 H1 s1 a1 I1 r1=>
  jN (P:=λx o=>o = .bad\/∃cal:Value × List Value,(∀(pl:Sem Bool)(Q:Value × List Value->Shared->Prop)(E:Value->Shared->Prop),Q cal s1->wpAny (Md G) A (getMethod x "join" pl) Q E s1)/\Wps G F al A ρ1 H1 s1 (callWith pos cal.1 cal.2 (backTo pos (starEach [a] env)) []) (RV G F) Z o) r1 (.inl rfl)
   λl t _=>match l with
    |[]=>.inr ⟨(.builtin "str.join", [.str ⟨#[]⟩ t]),λpl Q E h=>m7 h,gP hp (bZ _) I1 (ha I1) λu v ρ2 H2 s2 a2 I2 r2=>wl I2.sr r2⟩
    |_::_=>.inl rfl
end
end J.Internal
namespace J.Internal
theorem m8:typeLookup (.type "list") "keys" = pure none:=by rw[typeLookup_type,builtinLookup_eq_fast];kernel_rfl
section
variable{t:Nat}
theorem wv(args:List Value):firstArgMember (.type "AttributeError") args=pure .none:=by kernel_rfl
noncomputable abbrev o8(t:Addr):Obj:={cls:=.type "AttributeError", data:=.fields (#[.ref t,.none,.none,.none,.bool false,.none]++#[unsetMember,unsetMember])}
end
noncomputable section
def cW(prog:Program)(w:World)(A:Around)(E:Value->Shared->Prop)(h:Heap)(g:Array GenState)(d:Drawn)(t:Nat)(os:OsState)(a:Addr)(msg:Str)(Q:Fin->Shared->Prop):Prop:=
 ∀(hh:A.handled=none)(hm:msg.length<=sizeLine)(hq:∀h' tk' e,(∀b o,h.get? b=some o->h'.get? b=some o)->(∃oe,h'.get? e=some oe/\oe.cls = .type "AttributeError")->E (.ref e) ⟨h',g,d,tk',os⟩),wpAny (model prog w) A (raiseAttrError (.ref a) (Str.ofString "keys") msg) Q E ⟨h,g,d,t,os⟩
namespace Kraise_attr
def z:=ep (BN cW)
def prog:=z.1
def w:=z.2.1
def h:=z.2.2.2.2.1
def t:=z.2.2.2.2.2.2.2.1
def msg:=z.2.2.2.2.2.2.2.2.2.2.1
theorem T:cW prog w z.2.2.1 z.2.2.2.1 h z.2.2.2.2.2.1 z.2.2.2.2.2.2.1 t z.2.2.2.2.2.2.2.2.1 z.2.2.2.2.2.2.2.2.2.1 msg z.2.2.2.2.2.2.2.2.2.2.2:=by
 intro hh hm hq;unfold raiseAttrError;refine wpAny_bind (wpAny_mkStr' ?_ hm);refine wpAny_bind ?_;unfold newExc newTuple;refine wpAny_bind (wpAny_newObj_type ?_ (by show[Value.str msg t].toArray.size<=sizeLine;rw[sizeLine_eq];simp));refine wpAny_bind (wpAny_of_eq (wv _) ?_);rw[ownMembersOf_AttributeError];refine wpAny_newObj_type ?_;refine wpAny_bind (wpAny_mkText ?_);generalize hh1:h.push {cls:=.type "tuple", data:=.seq [Value.str msg t].toArray}=h1;have k1:∀b o,h.get? b=some o->h1.get? b=some o:=λb o e=>by rw[<-hh1];exact Heap.get?_push_of_some _ e
 have gx:=Heap.get?_push_size (h:=h1) (o:=o8 h.objs.size) rfl;have k2:∀b o,h1.get? b=some o->(h1.push (o8 h.objs.size)).get? b=some o:=λb o e=>Heap.get?_push_of_some _ e;have hi:Looks (model prog w) (h1.push (o8 h.objs.size)) (isInstance (.ref h1.objs.size) (.type "AttributeError")) true:=(Looks.ld gx).andThen (Looks.of_pure sub_AttributeError);refine wpAny_bind ?_;unfold noteAttr;dsimp only
 have hl:Looks (model prog w) (h1.push (o8 h.objs.size)) (lacksNameAndObj (.ref h1.objs.size)) true:=by
  unfold lacksNameAndObj;refine hi.andThen ?_;rw[if_neg (by decide)];refine(Looks.ld (part:=none) gx).andThen ?_;exact Looks.of_pure rfl
 refine wpAny_bind (hl.here ?_);rw[if_pos rfl];refine wpAny_bind (wpAny_rule ?_);have ht:Looks (model prog w) (h1.push (o8 h.objs.size)) (typeOf (.ref h1.objs.size)) (.type "AttributeError"):=(Looks.ld gx).andThen .now;refine wpAny_bind (ht.here ?_);unfold layMembers;refine wpAny_bind ?_;refine wpAny_load gx ?_;refine wpAny_update gx ?_;refine wpAny_raiseNew_none hh (hq _ _ _ (λb o e=>?_) ⟨_,Heap.get?_update_self _ gx rfl,rfl⟩);rw[Heap.get?_update_ne _ _ _ _ (L4 (Heap.lt_size (k1 _ _ e)))];exact k2 _ _ (k1 _ _ e)
end Kraise_attr
end
theorem qM{prog w A E h g d t os a msg Q}:cW prog w A E h g d t os a msg Q:=cN (p:=BN cW) Kraise_attr.T (prog,w,A,E,h,g,d,t,os,a,msg,Q)
section
variable{prog:Program}{w:World}{A:Around}{E:Value->Shared->Prop}{h:Heap}{g:Array GenState}{d:Drawn}{t:Nat}{os:OsState}{a:Addr}{vs:List Value}{m:Nat}
theorem qN{tk:Tok}{Q:Fin->Shared->Prop}(hh:A.handled=none)(hx:h.get? a=some (bD vs m))
  (hq:∀h' tk' e,(∀b o,h.get? b=some o->h'.get? b=some o)->(∃oe,h'.get? e=some oe/\oe.cls = .type "AttributeError")->E (.ref e) ⟨h',g,d,tk',os⟩) :
  wpAny (model prog w) A (Builtin.«object.__getattribute__» ⟨[.ref a,.str "keys" tk],[]⟩) Q E ⟨h,g,d,t,os⟩:=by
 have hT:(⟨h,g,d,t,os⟩ : Shared).TypeIs (.ref a) "list" := ⟨_,hx,rfl⟩;have f4:=m8
 repeat (any_goals (first|assumption|(with_reducible refine wpAny_loadPart_at hx ?_)|wp_step))
 exact qM hh (by decide +kernel) hq
theorem zu{tk:Tok}{Q:Value->Shared->Prop}(hh:A.handled=none)(hx:h.get? a=some (bD vs m))
  (hq:∀h' tk' e,(∀b o,h.get? b=some o->h'.get? b=some o)->(∃oe,h'.get? e=some oe/\oe.cls = .type "AttributeError")->E (.ref e) ⟨h',g,d,tk',os⟩) :
  wpAny (model prog w) A (getAttrBy (.ref a) (.str "keys" tk) false) Q E ⟨h,g,d,t,os⟩:=by
 have hT:(⟨h,g,d,t,os⟩ : Shared).TypeIs (.ref a) "list" := ⟨_,hx,rfl⟩;have f2:=F.slot_list_getattribute.lookup;have f3:=F.slot_list_getattribute.bind (.ref a)
 repeat (any_goals (first|assumption|wp_step))
 refine codeAny_call_builtin F.slot_list_getattribute.plain F.entry_list_ga (F.slot_list_getattribute.check _ _ _ _ _ _ _ _ hT (F.args_list_getattribute_2 _ _) (qN hh hx λh' tk' e k ho=>?_));dsimp only;obtain⟨oe,g1,g2⟩:=ho;unfold getattributeRaised;have hT':(⟨h',g,d,tk',os⟩ : Shared).TypeIs (.ref e) "AttributeError" := ⟨_,g1,g2⟩;have f4:=sub_AttributeError
 repeat (any_goals (first|assumption|wp_step))
 refine wpAny_of_eq list_getattr_none ?_;unfold hookOrError
 repeat (any_goals (first|assumption|wp_step))
 exact hq _ _ _ k ⟨oe,g1,g2⟩
theorem ui{Q:Option Value->Shared->Prop}(hh:A.handled=none)(hx:h.get? a=some (bD vs m))
  (hq:∀h' tk',(∀b o,h.get? b=some o->h'.get? b=some o)->Q none ⟨h',g,d,tk',os⟩):wpAny (model prog w) A (getAttr? (.ref a) "keys") Q E ⟨h,g,d,t,os⟩:=by
 unfold getAttr? getAttrBy?
 refine wpAny_bind (wpAny_mkText (wpAny_bind (wpAny_attempt (wpAny_mono (Q:=λ_ _=>False) (E:=λe s'=>∃h' tk' ea,e = .ref ea/\s'=⟨h',g,d,tk',os⟩/\(∀b o,h.get? b=some o->h'.get? b=some o)/\∃oe,h'.get? ea=some oe/\oe.cls = .type "AttributeError")
  (zu hh hx λh' tk' e k ho=>⟨h',tk',e,rfl,rfl,k,ho⟩) (λ_ _ q=>q.elim) λe s' q=>?_))))
 obtain⟨h',tk',ea,rfl,rfl,k,oe,g1,g2⟩:=q;have hi:Looks (model prog w) h' (isInstance (.ref ea) (.type "AttributeError")) true:=(Looks.ld g1).andThen (by rw[g2];exact Looks.of_pure sub_AttributeError);refine wpAny_bind (hi.here ?_);rw[if_pos rfl];exact wpAny_pure (hq h' tk' k)
end
theorem ga:entryFor table "dict.update.loop" = some Builtin.«dict.update.loop»:=entryFor_of_tree (by kernel_rfl)
theorem gb:plainId "dict.update.loop" = true:=by decide +kernel
variable{G:Cx}
section
variable{A:Around}{R:Result->Shared->Prop}
theorem ww{X:Av}{h:Heap}{k:List Nat}{x:V}{v:Value}(r:Rel G X h (.tup [.str k,x]) v):∃a t u m,v = .ref a/\¬X a/\h.get? a=some (cS [.str (S' k) t,u] m)/\k.length<=aq/\Rel G X h x u:=by
 obtain⟨_,a,vs,m,rfl,nx,g,l⟩:=r;obtain⟨v1,r1,rfl,q1,l⟩:=l;obtain⟨v2,r2,rfl,q2,l⟩:=l;subst l;obtain⟨hk,t,rfl⟩:=q1;exact⟨a,t,v2,m,rfl,nx,g,hk,q2⟩
theorem qO{x:V}{xs:List V}{acc kvs:List (List Nat × V)}(h:dq (x::xs) acc=some kvs):∃k v,x = .tup [.str k,v]/\dq xs (cx acc k v)=some kvs:=
 kT (d:=none) (f:=λl=>pS l (λk v=>k.onS (λk=>dq xs (cx acc k v)) none) none) (P:=λx o=>o=some kvs->∃k v,x = .tup [.str k,v]/\dq xs (cx acc k v)=some kvs) (λw=>(by cases w))
  (λl=>e2 (d:=none) (P:=λl o=>o=some kvs->∃k v,V.tup l = .tup [.str k,v]/\dq xs (cx acc k v)=some kvs) (λw=>(by cases w)) λk v=>kS (d:=none) (P:=λx o=>o=some kvs->∃k u,V.tup [x,v] = .tup [.str k,u]/\dq xs (cx acc k u)=some kvs) (λw=>(by cases w))
   λk w=>⟨k,v,rfl,w⟩) h
theorem wx{X:Av}{h0:Heap}{I D:Addr}{fp:List Addr}{P:Nat->Value->Prop}{St:Nat->Heap->Prop}{xs:List V}
  (W:Walks G.p G.w A.in1 I fp [I] xs.length P St) (hDI:D≠I) (hD:D∉fp) (hX:X I/\X D)
  (hel:∀i v,i<xs.length->P i v->∃x,xs[i]? = some x/\Rel G X h0 x v) :
  ∀k i,i+k=xs.length->∀{s:Shared}{us:List (Str × Value)}{kvs kvs':List (List Nat × V)}{t:Tok},St i s.heap->s.heap.DictOf (strKind G.p G.w) D us->gN G X h0 kvs us->(kvs.map (·.1)).Nodup->kvs.length+k<=aq->
   (∀b o,¬X b->h0.get? b=some o->s.heap.get? b=some o)->dq (xs.drop i) kvs=some kvs'->
   (∀h' tk us',h'.DictOf (strKind G.p G.w) D us'->gN G X h0 kvs' us'->(kvs'.map (·.1)).Nodup->kvs'.length<=aq->(∀b o,b≠I->b≠D->s.heap.get? b=some o->h'.get? b=some o)->R (.ok (.ret .none)) {s with heap:=h',toks:=tk})->
   codeAny (Md G) A (.builtin "dict.update.loop" ⟨[.ref D,.ref I,.int i t,.none],[]⟩) R s:=by
 intro k
 induction k with
 |zero=>
  intro i e s us kvs kvs' t st hd hu hn hz hk hp hR;have hi:i=xs.length:=e;subst hi;simp only[List.drop_length,yD,Option.some.injEq]at hp;subst hp;refine codeAny_builtin ga ?_;rw[Around.under_plainId gb _];unfold Builtin.«dict.update.loop»;dsimp only;refine wpAny_bind (W.done s _ _ st λh' tk k'=>?_);dsimp only;refine wpAny_bind (wpAny_pure (wpAny_pure ?_));refine hR h' tk us ?_ hu hn hz λb o n1 n2 e=>k' b o (by simp[n1]) e;obtain⟨o,es,ep,g,r⟩:=hd;exact⟨o,es,ep,k' _ _ (by simp[hDI]) g,r⟩
 |succ k ih=>
  intro i e s us kvs kvs' t st hd hu hn hz hk hp hR;have hi:i<xs.length:=e▸Nat.lt_add_of_pos_right (Ms k);refine codeAny_builtin ga ?_;rw[Around.under_plainId gb _];unfold Builtin.«dict.update.loop»;dsimp only;refine wpAny_bind (W.item i s _ _ hi st λv h1 tk1 hv st1 k1=>?_);obtain⟨x,ex,rx⟩:=hel i v hi hv
  have hdr:xs.drop i=x::xs.drop (i+1):=by
   rw[<-List.getElem_cons_drop (h:=hi)];congr 1;rw[LH hi]at ex;exact LM ex
  rw[hdr]at hp;obtain⟨kk,y,rfl,hp⟩:=qO hp;obtain⟨a,tt,u,m,rfl,nx,g,hkl,ry⟩:=ww rx;have g1:h1.get? a=some (cS [.str (S' kk) tt,u] m):=k1 _ _ (by simp;intro w;exact nx (w▸hX.1)) (hk _ _ nx g)
  have hd1:h1.DictOf (strKind G.p G.w) D us:=by
   obtain⟨o,es,ep,g,r⟩:=hd;exact⟨o,es,ep,k1 _ _ (by simp[hDI]) g,r⟩
  have tp:Looks (Md G) h1 (Builtin.Dict.pairItems (.ref a)) [.str (S' kk) tt,u]:=by
   unfold Builtin.Dict.pairItems;refine((Looks.ld g1).andThen .now).andThen ?_;dsimp only;rw[if_pos (by rfl)];unfold seqItems?;exact((Looks.ld (part:=none) g1).andThen .now).andThen .now
  dsimp only;refine wpAny_bind (wpAny_holding (wpAny_bind (wpAny_tryCatch (tp.here ?_))));dsimp only;refine wpAny_holding ?_;unfold dictSet;refine wpAny_holding (wpAny_bind ((strKind G.p G.w).pyHash (k:=S' kk) (strKind_is G.p G.w _ tt) ?_));refine wpAny_dictSetHashed_pairs (knd:=strKind G.p G.w) (strKind_is G.p G.w _ tt) hd1 (λh2 hd2 hs2=>?_) ?_
  ·refine wpAny_pure ⟨Code.quiet_builtin _ (by decide +kernel),?_⟩;have k2:∀b o,b≠I->b≠D->s.heap.get? b=some o->h2.get? b=some o:=λb o n1 n2 e=>(hs2.2 b n2).trans (k1 b o (by simp[n1]) e);refine ih (i+1) ((Nat.succ_add i k).trans e) (t:=0) (s:={s with heap:=h2,toks:=tk1+1}) (W.frame _ _ _ st1 λb hb o e=>(hs2.2 b (λw=>hD (w▸hb))).trans e) hd2
    (lP hn hkl hu (λ_ _ r=>r) ry) (jW hn) (LB (MB (oG kk y kvs) k) (LB (Ma (Nat.succ_add ..)) hz)) (λb o n e=>k2 b o (λw=>n (w▸hX.1)) (λw=>n (w▸hX.2)) (hk b o n e)) hp ?_
   intro h' tk us' q1 q2 q3 q4 q5;exact hR h' tk us' q1 q2 q3 q4 λb o n1 n2 e=>q5 b o n1 n2 (k2 b o n1 n2 e)
  ·have:=congrArg List.length (cZ hu);simp only[List.length_map]at this;rw[this];exact LB (LB (L6 kvs.length (k+1)) hz) (by decide:aq<=sizeLine)
end
variable{h:Heap}
section
variable{p:Pos}
theorem lX{a:Addr}{us:List (Str × Value)}{X:Av}{h0:Heap}{kvs:List (List Nat × V)}(hd:h.DictOf (strKind G.p G.w) a us)(hu:gN G X h0 kvs us):∃es m,h.get? a=some (dictOf es m)/\RelD G X h0 kvs es:=by
 obtain⟨⟨oc,od,odt,osl⟩,es',ep',g',⟨e1,e2,e3⟩,e4,hk',hp',hn'⟩:=hd;simp only at e1 e2 e3 e4;subst e1 e2 e3 e4;exact⟨es'.toList,ep',by simpa using g',sd hp' hu λe he=>hk' e (by simpa using he)⟩
end
end J.Internal
namespace J.Internal
noncomputable section
def fN(G:Cx)(F:Av)(A:Around)(Z:Option (Option Addr)->Prop)(sc:Scope)(nm:List Str)(env:Env):Prop:=
 ∀{ρ:List (Addr × Addr)}{H:Hp}{s:Shared}{σ:ai}{b:V}{x:Value}(bg:Bg G)(hh:A.handled=none)(I:Inv G F A sc nm env ρ H σ s)(r:TRel G ρ (F.or (aj ρ H)) s.heap b x),Wps G F al A ρ H s (call (fB .dict) [x]) (RV G F) Z (bG .dict b H)
namespace Kop_dict
def z:=ep (V7 fN)
def G:=z.1
def F:=z.2.1
def A:=z.2.2.1
def Z:=z.2.2.2.1
def sc:=z.2.2.2.2.1
def nm:=z.2.2.2.2.2.1
def env:=z.2.2.2.2.2.2
theorem T:fN G F A Z sc nm env:=by
 intro ρ H s σ b x bg hh I r;have hno:s.heap.get? s.heap.objs.size=none:=Heap.get?_none_of_le (LZ _)
 have hns:(s.heap.objs.size==sysModules)=false:=by
  obtain⟨o,e⟩:=bg.mods;rw[beq_eq_false_iff_ne];intro w;have:=I.sr.base _ _ e;rw[<-w,hno]at this;cases this
 have hfr:¬F.or (aj ρ H) s.heap.objs.size:=bw I.sr I.ft
 cases b with
 |dct kvs=>
  have r':Rel G (F.or (aj ρ H)) s.heap (.dct kvs) x:=r;obtain⟨⟨z,zn⟩,a,es,m,rfl,na,nx,g,l⟩:=r';obtain⟨us,hd,hu,hl⟩:=iI zn g l;refine ah (kt_call_dict na hd (by rw[hl];exact dO z) λh' hd' hs=>?_);have k:∀b o,s.heap.get? b=some o->h'.get? b=some o:=λb o e=>(hs.2 b (L4 (Heap.lt_size e))).trans (Heap.get?_push_of_some _ e);have af:Aft G F al ρ H s ρ H {s with heap:=h'}:=.keeps I.sr ⟨h',s.toks,rfl⟩ k;refine⟨ρ,af,?_⟩;obtain⟨es',m',g',rd⟩:=lX hd' hu;show Rel _ _ _ _ _;show _/\∃a es n,_;exact⟨⟨z,zn⟩,_,es',m',rfl,hns,hfr,g',RelD.ext G af.ext (λ_ q=>q.elim .inr .inl) rd⟩
 |lst xs=>
  show Wps G F al A ρ H s _ (RV G F) Z (bo (dq xs []) λkvs=>.ok (.dct kvs) H)
  cases hp:dq xs []with
  |none=>trivial
  |some kvs=>
   have r':Rel G (F.or (aj ρ H)) s.heap (.lst xs) x:=r;obtain⟨z,a,vs,m,rfl,nx,g,l⟩:=r';show wpS _ _ _ _ _ _;refine ah (callType_codes (Q₁:=λobj s₁=>obj = .ref s.heap.objs.size/\s₁ = {s with heap:=s.heap.push {cls:=.type "dict", data:=.dict #[]}}) PySem.F.kt_called_dict (PySem.F.kt_typeCall_dict_1 _) PySem.F.entry_dict_init (kt_code_dict_new _ ⟨rfl,rfl⟩) ?_);rintro obj s₁ ⟨rfl,rfl⟩;have hnew:(s.heap.push {cls:=.type "dict", data:=.dict #[]}).DictOf (strKind G.p G.w) s.heap.objs.size []:=Heap.DictOf.new s.heap;refine⟨hnew.typeIs,PySem.F.args_dict_init_2 _ _,?_⟩;generalize hD:s.heap.objs.size=D at *;have kD:∀b o,s.heap.get? b=some o->(s.heap.push {cls:=.type "dict", data:=.dict #[]}).get? b=some o:=λb o e=>Heap.get?_push_of_some _ e;have gl:=kD _ _ g;obtain⟨hp0,gg,dd,tt,oo⟩:=s;dsimp only at *;generalize hs1:hp0.push {cls:=.type "dict", data:=.dict #[]}=h1 at *;unfold Builtin.«dict.__init__»;refine wpAny_bind ?_;unfold Builtin.Dict.selfAndRest;refine wpAny_bind (wpAny_notOrdered_dict hnew.typeIs ?_);show wpAny _ _ (pure (D,[Value.ref a])) _ _ _;refine wpAny_pure ?_;show wpAny _ _ (Builtin.Dict.updateFrom "dict.__init__" D (.ref a) [] .none) _ _ _;unfold Builtin.Dict.updateFrom;have hT:(⟨h1,gg,dd,tt,oo⟩ : Shared).TypeIs (.ref a) "list" := ⟨_,gl,rfl⟩;refine wpAny_bind (wpAny_typeOf hT ?_);rw[if_pos (by decide)];refine wpAny_bind (ui hh gl λh2 tk2 k2=>?_);rw[if_pos (by rfl)];refine wpAny_bind (wpAny_rule (wpAny_bind ?_))
   have I2:Inv G (F.or λy=>y=D) A.in1.in1 sc nm env ρ H σ ⟨h2,gg,dd,tk2,oo⟩:=by
    have I':=I.wid (L:=λy=>y=D) (s1:=⟨h2,gg,dd,tk2,oo⟩) ⟨h2,tk2,rfl⟩ (λb o e=>k2 _ _ (kD _ _ e)) (λy hy=>by
     subst hy;refine⟨hno,?_⟩;obtain⟨o,es,ep,g0,_⟩:=hnew
     exact⟨o,k2 _ _ g0⟩)
    exact⟨I'.sr,I'.ev,by obtain⟨l,e,q⟩:=I'.st;exact⟨l,e,q⟩,I'.ft⟩
   have r2:TRel G ρ ((F.or λy=>y=D).or (aj ρ H)) h2 (.lst xs) (.ref a):=by
    have E:Ext al (F.or (aj ρ H)) ((F.or λy=>y=D).or (aj ρ H)) hp0 h2:=⟨λb o e _=>k2 _ _ (kD _ _ e),λb o e=>⟨o,k2 _ _ (kD _ _ e)⟩,λy w=>by
     rcases w with (w|w)|w
     ·exact .inl (.inl w)
     ·right;rw[w];exact hno
     ·exact .inl (.inr w)⟩
    exact TRel.ext (x:=.lst xs) E (λ_ m=>m.elim) (LP _) r
   refine mO (F:=F.or λy=>y=D) hh I2.sr I2.ft r2 rfl λIt h3 hIn k3 hIe itr=>?_;obtain⟨fp,P,St,W,st,hIf,hfp,_,hel⟩:=itr;refine wpAny_pure ⟨Code.quiet_builtin _ (by decide +kernel),?_⟩
   have hDe:∃o,h2.get? D=some o:=by
    obtain⟨o,es,ep,g0,_⟩:=hnew;exact⟨o,k2 _ _ g0⟩
   have hDI:D≠It:=λw=>by
    obtain⟨o,e⟩:=hDe;rw[w,hIn]at e;cases e
   have hd3:h3.DictOf (strKind G.p G.w) D []:=by
    obtain⟨o,es,ep,g0,q⟩:=hnew;exact⟨o,es,ep,k3 _ _ (k2 _ _ g0),q⟩
   refine wx (X:=(((F.or λy=>y=D).or λy=>y=It).or (aj ρ H))) (h0:=h3) W hDI (λw=>?_) ⟨.inl (.inr rfl),.inl (.inl (.inr rfl))⟩ hel xs.length 0 (by omega) (us:=[]) (kvs:=[]) (kvs':=kvs) st hd3 (show _=_ from rfl) (by simp) (by simpa using z) (λb o _ e=>e) (by simpa using hp) (λh4 tk4 us4 hd4 hu4 hn4 hz4 k4=>?_)
   ·rcases hfp D w with e|⟨n,_⟩
    ·exact hDI e
    ·exact n (.inl (.inr rfl))
   ·have kk:∀b o,hp0.get? b=some o->h4.get? b=some o:=λb o e=>by
     have e3:=k3 _ _ (k2 _ _ (kD _ _ e));refine k4 b o (λw=>?_) (λw=>?_) e3
     ·have:=k2 _ _ (kD _ _ e);rw[w,hIn]at this;cases this
     ·rw[w,hno]at e;cases e
    have af:Aft G F al ρ H ⟨hp0,gg,dd,tt,oo⟩ ρ H ⟨h4,gg,dd,tk4,oo⟩:=.keeps I.sr ⟨h4,tk4,rfl⟩ kk;refine⟨rfl,ρ,af,?_⟩;obtain⟨es',m',g',rd⟩:=lX hd4 hu4;show Rel _ _ _ _ _;show _/\∃a es n,_;refine⟨⟨hz4,hn4⟩,D,es',m',rfl,hns,hfr,g',RelD.ext0 G (M:=λy=>y=It\/y=D) ⟨λb o e n=>k4 b o (λw=>n (.inl w)) (λw=>n (.inr w)) e,λy w=>.inl ?_⟩ (λy w=>?_) rd⟩
    ·rcases w with w|w
     ·exact .inl (.inl (.inl w))
     ·exact .inr w
    ·rcases w with w|w
     ·exact .inl (.inr w)
     ·exact .inl (.inl (.inr w))
 |_=>trivial
end Kop_dict
end
theorem zv{G F A Z sc nm env}:fN G F A Z sc nm env:=cN (p:=V7 fN) Kop_dict.T (G,F,A,Z,sc,nm,env)
theorem uj:∀(p:Str)(l:List Str),risingS p l=true->(p::l).Pairwise (λa b=>iA b.cps.toList a.cps.toList=false):=by
 intro p l
 induction l generalizing p with
 |nil=>
  intro _;simp
 |cons x r ih=>
  intro h;have h':(!PySem.Spec.ltCps x.cps.toList p.cps.toList&&risingS x r)=true:=h;rw[Bool.and_eq_true,Mv]at h';have e:iA x.cps.toList p.cps.toList=false:=by rw[eT,<-ltCps_eq];exact h'.1
  have ih:=ih x h'.2;refine Mq.mpr ⟨λb hb=>?_,ih⟩;rcases LI.mp hb with rfl|hb
  ·exact e
  ·exact pW _ _ _ e (List.rel_of_pairwise_cons ih hb)
theorem qP:∀(l:List Str),sortedS l=true->l.Pairwise (λa b=>iA b.cps.toList a.cps.toList=false):=by
 intro l
 induction l with
 |nil=>
  intro _;exact .nil
 |cons x r ih=>
  intro h;exact uj x r h
variable{G:Cx}
variable{h:Heap}
section
variable{x:Str}{k:Nat}
theorem qQ{vs:List Value}:∀{ks:List (List Nat)},vs.length=ks.length->(∀(j:Nat)(v:Value),vs[j]? = some v->∃k t,ks[j]? = some k/\v=Value.str (S' k) t)->StrsAre vs (ks.map S'):=by
 induction vs with
 |nil=>intro ks e _;cases ks with
  |nil=>exact .nil
  |cons=>cases e
 |cons v vs ih=>
  intro ks e h
  cases ks with
  |nil=>cases e
  |cons k ks=>
   obtain⟨k',t,e1,rfl⟩:=h 0 v rfl;cases e1;exact .cons _ t (ih (Nat.succ.inj e) λj v hj=>h (j+1) v hj)
theorem wy{X:Av}{ks:List (List Nat)}:∀{vs:List Value},StrsAre vs (ks.map S')->(∀k∈ks,k.length<=aq)->RelL G X h (ks.map V.str) vs:=by
 induction ks with
 |nil=>intro vs r _;cases r;exact(show _=_ from rfl)
 |cons k ks ih=>
  intro vs r hk
  cases r with
  |cons y t r'=>exact(show ∃v r,_ from⟨_,_,rfl,(show _/\∃t,_ from⟨hk k (.head _),t,rfl⟩),ih r' λk' w=>hk k' (.tail _ w)⟩)
theorem CM:∀{ss:List Str}, ss=(ss.map λx=>x.cps.toList).map S':=by
 intro ss
 induction ss with
 |nil=>
  exact rfl
 |cons x r ih=>
  simp only[List.map_cons];rw[<-ih]
  rfl
theorem lC{X:Av}:∀{kvs:List (List Nat × V)}{es:List DictEntry},RelD G X h kvs es->∀k∈kvs.map (·.1),k.length<=aq:=by
 intro kvs
 induction kvs with
 |nil=>
  intro _ _ k hk;simp at hk
 |cons pp r ih=>
  obtain⟨k,x⟩:=pp;intro _ l k' hk;obtain⟨e,q,rfl,_,h1,_,h2⟩:=l;rcases LI.mp hk with rfl|hk
  ·exact h1
  ·exact ih h2 k' hk
end
end J.Internal
namespace J.Internal
noncomputable section
def bK(G:Cx)(F:Av)(A:Around)(ρ:List (Addr × Addr))(H:Hp)(Z:Option (Option Addr)->Prop)(sc:Scope)(nm:List Str)(env:Env)(σ:ai)(kvs:List (List Nat × V)):Prop:=
 ∀{s:Shared}{x:Value}(bg:Bg G)(hh:A.handled=none)(I:Inv G F A sc nm env ρ H σ s)(r:TRel G ρ (F.or (aj ρ H)) s.heap (.dct kvs) x),Wps G F al A ρ H s (call (fB .sorted) [x]) (RV G F) Z (bG .sorted (.dct kvs) H)
namespace Kop_sorted_dct
def zz:=ep (BM bK)
def G:=zz.1
def F:=zz.2.1
def A:=zz.2.2.1
def ρ:=zz.2.2.2.1
def H:=zz.2.2.2.2.1
def kvs:=zz.2.2.2.2.2.2.2.2.2.2
theorem TT:bK G F A ρ H zz.2.2.2.2.2.1 zz.2.2.2.2.2.2.1 zz.2.2.2.2.2.2.2.1 zz.2.2.2.2.2.2.2.2.1 zz.2.2.2.2.2.2.2.2.2.1 kvs:=by
 intro s x bg hh I r;refine Wps.guard λh64=>?_;have h64:=of_decide_eq_true h64;have r':Rel G (F.or (aj ρ H)) s.heap (.dct kvs) x:=r;obtain⟨⟨z,zn⟩,a,es,m,rfl,na,nx,g,l⟩:=r';obtain⟨us,p1,p2⟩:=mI l;have hat:s.heap.DictAt (strKind G.p G.w) a us m:=⟨_,es.toArray,g,⟨rfl,rfl,rfl⟩,rfl,λe he=>gM l e (List.mem_toArray.mp he),p1,by rw[cZ p2];exact jV zn⟩;have hul:us.length=kvs.length:=by have:=congrArg List.length (cZ p2);simpa using this
 have K:=kdl_dict (prog:=G.p) (w:=G.w) (knd:=strKind G.p G.w) (d:=a) (kvs:=us) (ep:=m) na;refine ah (Calls.call_function_entry kind_sorted plain_sorted entry_sorted (args_sorted1 _) ?_);unfold Builtin.«sorted»;refine wpAny_bind (m:=checkCount "sorted" 1 1 _) (wpAny_pure ?_);refine wpAny_bind (kdu_collect (A:=A.in1) K hh hat (by rw[hul];exact dO z) λh1 tk acc k1 hacc=>?_);have hl:acc.toList.length=us.length:=by rw[Array.length_toList];exact hacc.1
 refine wpAny_bind (wpAny_newList ?_ (by rw[hl,hul];exact dO z))
 have hS:StrsAre acc.toList ((kvs.map (·.1)).map S'):=by
  refine qQ (by rw[hl,hul];simp) λj v hj=>?_;obtain⟨k,y,e1,e2⟩:=hacc.2 j v (by rw[<-Array.getElem?_toList];exact hj);obtain⟨t,rfl⟩:=du e2;have hk:=congrArg (·[j]?) (cZ p2);simp only[List.getElem?_map,e1,Option.map_some]at hk
  cases hkv:kvs[j]? with
  |none=>rw[hkv]at hk;cases hk
  |some q=>
   rw[hkv]at hk;simp only[Option.map_some,Option.some.injEq]at hk;exact⟨q.1,t,by simp[hkv],by rw[hk]⟩
 have gL:(h1.push (seqObj "list" acc.toList.toArray 0)).get? h1.objs.size=some (seqObj "list" acc.toList.toArray 0):=Heap.get?_push_size _ rfl;refine wpAny_bind (wpAny_holding (wpAny_call_entry slot_list_sort ⟨_,gL,rfl⟩ entry_list_sort (list_sort_treeK strKind_oneLt gL hS.keysOf (λv₁ v₂ rest e=>keyKind_strs (by rw[<-e];exact hS)) (by rw[hl,hul];exact h64) λst' a1 a2=>⟨_,rfl,?_⟩) (args_list_sort _)));refine wpAny_pure ⟨_,rfl,?_⟩;obtain⟨ss',b1,b2,b3⟩:=sorted_out_str hS a1 a2;obtain⟨e5,g5⟩:=sortedHeap_at (vs:=acc.toList) (out:=(arrOf st').map (·.2)) gL
 have k5:∀b o,s.heap.get? b=some o->(sortedHeap (h1.push (seqObj "list" acc.toList.toArray 0)) h1.objs.size acc.toList ((arrOf st').map (·.2))).get? b=some o:=λb o e=>by
  have e1:=k1 b o e;have hlt:=Heap.lt_size e1;rw[sortedHeap_old (L4 hlt) (by rw[Heap.size_push];exact Nat.lt_succ_of_lt hlt)];exact Heap.get?_push_of_some _ e1
 have af:Aft G F al ρ H s ρ H {s with heap:=sortedHeap (h1.push (seqObj "list" acc.toList.toArray 0)) h1.objs.size acc.toList ((arrOf st').map (·.2)),toks:=tk}:=.keeps I.sr ⟨_,tk,rfl⟩ k5;refine⟨ρ,af,?_⟩
 have hperm:(ss'.map λx=>x.cps.toList).Perm (kvs.map (·.1)):=by
  have:=b2.map λx:Str=>x.cps.toList;rw[L5]at this;simpa[Function.comp_def,S']using this
 have huq:=oh u4 pW oi hperm (List.pairwise_map.mpr (qP _ b3));show Rel _ _ _ _ _;rw[<-huq];show _/\∃a vs n,_;have hss:StrsAre ((arrOf st').map (·.2)).toList ((ss'.map λx=>x.cps.toList).map S'):=by rw[<-CM];exact b1
 refine⟨by have:=hperm.length_eq;simp only[List.length_map]at this ⊢;omega,h1.objs.size,((arrOf st').map (·.2)).toList,e5,rfl,?_,by rw[bD,Array.toArray_toList];exact g5,wy hss λk hk=>lC l k (hperm.mem_iff.mp hk)⟩;intro w
 have:∃o,s.heap.get? h1.objs.size=some o:=by
  rcases w with w|w
  ·exact I.ft _ w
  ·exact fz I.sr w
 obtain⟨o,e⟩:=this;exact absurd (Heap.lt_size (k1 _ _ e)) (Mg _)
end Kop_sorted_dct
end
theorem lE{G F A ρ H Z sc nm env σ kvs}:bK G F A ρ H Z sc nm env σ kvs:=cN (p:=BM bK) Kop_sorted_dct.TT (G,F,A,ρ,H,Z,sc,nm,env,σ,kvs)
noncomputable def bp:List Value->Option (List Int)
 |[]=>some []
 |.int i _::r=>(bp r).map (i::·)
 |_::_=>none
section
variable{prog:Program}{w:World}{A:Around}{E:Value->Shared->Prop}{s:Shared}
theorem qR{c:Bool}{i j:Int}{t u:Tok}{Q:Bool->Shared->Prop}(h:Q (decide (i<j)) s):wpAny (model prog w) A (oneLt' c (.int i t) (.int j u)) Q E s:=by
 cases c with
 |true=>exact oneLt_int h
 |false=>
  rw[oneLt'_eq];simp -iota only[Bool.false_eq_true,if_false];exact wpAny_bind (richCompare_gives (op:=.Lt) (typeIs_int s _ t) (typeIs_int s _ u) F.slot_int_lt F.entry_int_lt (F.args_int_lt_2 _ _) (gives_int_lt _ _ t u) (λx=>(by cases x)) (wpAny_truthy_bool h))
theorem kn{x:Value}{ts:List Value}{l:List Int}(h:bp (x::ts)=some l):∃i t l',x = .int i t/\l=i::l'/\bp ts=some l':=by
 cases x with
 |int i t=>exact(Option.map_eq_some_iff.mp h).elim λl' q=>⟨i,t,l',rfl,q.2.symm,q.1⟩
 |_=>cases h
theorem ko{l:List Int}(h:bp []=some l):l=[]:=(LM h).symm
theorem CN{b fin:Bool}{Q:Bool->Shared->Prop}(ts:List Value):∀(us:List Value)(l m:List Int)(n:Nat),bp ts=some l->bp us=some m->fin=decide (ts.length<us.length)->
  Q (decide (l<m)) s->KatLex prog w A b fin Q (ts.zip us) n s:=by
 induction ts with
 |nil=>
  intro us l m n h1 h2 hf q;refine kat_nil ?_;rw[ko h1]at q;rw[hf]
  cases us with
  |nil=>rw[ko h2]at q;exact q
  |cons y us=>
   obtain⟨i,t,m',_,rfl,_⟩:=kn h2;rw[decide_eq_true (List.nil_lt_cons _ _)]at q;exact(decide_eq_true (Ms us.length)).symm▸q
 |cons x ts ih=>
  intro us l m n h1 h2 hf q;obtain⟨i,t,l',rfl,rfl,k1⟩:=kn h1
  cases us with
  |nil=>rw[ko h2]at q;exact kat_nil (hf▸q)
  |cons y us=>
   obtain⟨j,u,m',rfl,rfl,k2⟩:=kn h2;refine kat_cons (SeqAt.EqAt.int_int i t j u prog w _ _ (kat_go (λe=>kat_yes ?_) λe=>kat_no (qR ?_)))
   ·have hij:=of_decide_eq_true e;subst hij;refine ih us l' m' (n+1) k1 k2 (hf.trans (decide_eq_decide.mpr Nat.succ_lt_succ_iff)) ?_;rw[show decide (i::l'<i::m')=decide (l'<m') by simp]at q;exact q
   ·have hij:=of_decide_eq_false e;rw[show decide (i::l'<j::m')=decide (i<j) by simp[List.cons_lt_cons_iff,hij]]at q;exact q
theorem m9{b:Bool}{x y:Addr}{ts us:List Value}{l m:List Int}{n k:Nat}{Q:Bool->Shared->Prop}(gx:s.heap.get? x=some (cS ts n))(gy:s.heap.get? y=some (cS us k))(h1:bp ts=some l)(h2:bp us=some m)
  (h:Q (decide (l<m)) s):wpAny (model prog w) A (keyLt' (tuples' b) (.ref x) (.ref y)) Q E s:=
 kat_lt gx rfl gy rfl (CN ts us l m 0 h1 h2 rfl h)
end
noncomputable def hM(h:Heap):Value->Option (List Int)
 |.ref a=>match h.get? a with
  |some o=>match o.data with
   |.seq vs _=>bp vs.toList
   |_=>none
  |none=>none
 |_=>none
@[reducible] noncomputable def aD(h:Heap):PyProof.Rows.KeyKind where
 α:=List Int
 blt a b:=decide (a<b)
 irrefl a:=by simp
 trans a b c h1 h2:=by simp only[decide_eq_true_eq]at *;exact List.lt_trans h1 h2
 negTrans a b c h:=by
  simp only[decide_eq_true_eq]at *
  by_cases hab:a<b
  ·exact .inl hab
  ·exact .inr (List.lt_of_le_of_lt (MA.mp hab) h)
 total a b h1 h2:=by simp only[decide_eq_false_iff_not]at *;exact List.le_antisymm (MA.mp h2) (MA.mp h1)
 keyOf v:=hM h v
 dflt:=[]
def dK(h:Heap)(a₀:Array Keyed):Prop:=∀p∈a₀.toList,∃a ts n l,p.1 = .ref a/\h.get? a=some (cS ts n)/\bp ts=some l
def Apart(h:Heap)(xs:Array Keyed):Prop:=(xs.toList.map λp=>(hM h p.1).getD []).Nodup
structure SB(b:Bool)(a₀:Array Keyed)(st:SortSt):Prop where
 perm:(arrOf st).Perm a₀
 kind:kindOf st=tuples' b
 failed:failedOf st=none
 pend:pendingOf st = #[]
theorem SB.size{b:Bool}{a₀:Array Keyed}{st:SortSt}(h:SB b a₀ st):(arrOf st).size=a₀.size:=h.perm.size_eq
theorem SB.setArr{b:Bool}{a₀:Array Keyed}{st:SortSt}(h:SB b a₀ st){xs:Array Keyed}(hp:xs.Perm (arrOf st)):SB b a₀ (setArr st xs):=⟨hp.trans h.perm,h.kind,h.failed,h.pend⟩
theorem Apart.perm{h:Heap}{xs ys:Array Keyed}(p:ys.Perm xs)(d:Apart h xs):Apart h ys:=by
 unfold Apart at *;exact((Array.perm_iff_toList_perm.mp p).map _).nodup_iff.mpr d
theorem o9{h:Heap}{xs:Array Keyed}{i:Nat}(hi:i<xs.size):KK (aD h) xs i=(hM h xs[i].1).getD []:=by
 unfold KK;rw[getElem?_pos xs i hi]
theorem Apart.ne{h:Heap}{xs:Array Keyed}(d:Apart h xs){i j:Nat}(hi:i<xs.size)(hj:j<xs.size)(n:i≠j):KK (aD h) xs i≠KK (aD h) xs j:=by
 rw[o9 hi,o9 hj];intro e;have hl:i<(xs.toList.map λp=>(hM h p.1).getD []).length:=by simpa using hi
 have hm:j<(xs.toList.map λp=>(hM h p.1).getD []).length:=by simpa using hj
 refine n ((List.getElem_inj (h₀:=hl) (h₁:=hm) d).mp ?_);simpa using e
section
variable{prog:Program}{w:World}{A:Around}{E:Value->Shared->Prop}{s:Shared}{a₀:Array Keyed}{b:Bool}
theorem pc{st:SortSt}{i j:Nat}{Q:Option Bool->SortSt->Prop}(hT:dK s.heap a₀)(hB:SB b a₀ st)(hi:i<a₀.size)(hj:j<a₀.size)
  (h:Q (some (decide (KK (aD s.heap) (arrOf st) i<KK (aD s.heap) (arrOf st) j))) st):PyProof.Rows.wpS (model prog w) A E s (ltAt' i j) Q st:=by
 have mem:∀k,k<a₀.size->∃a ts n l q,(arrOf st)[k]? = some (.ref a,q)/\s.heap.get? a=some (cS ts n)/\bp ts=some l/\KK (aD s.heap) (arrOf st) k=l:=by
  intro k hk;have hk':k<(arrOf st).size:=by rw[hB.size];exact hk
  have hm:(arrOf st)[k]∈a₀.toList:=(Array.perm_iff_toList_perm.mp hB.perm).mem_iff.mp (by simp);obtain⟨a,ts,n,l,e1,e2,e3⟩:=hT _ hm;refine⟨a,ts,n,l,(arrOf st)[k].2,by rw[getElem?_pos _ k hk',<-e1],e2,e3,?_⟩;rw[o9 hk',e1];simp[hM,e2,e3]
 obtain⟨x,ts,n,l,p,e1,g1,i1,k1⟩:=mem i hi;obtain⟨y,us,m,k,q,e2,g2,i2,k2⟩:=mem j hj;rw[k1,k2]at h;rw[ltAt'_eq];refine wpS_bind (wpS_get ?_);show PyProof.Rows.wpS _ _ _ _ (do let x <-elem' (arrOf st) i;let y <-elem' (arrOf st) j;lt' x y) Q st;rw[elem'_eq,elem'_eq,e1,e2];refine wpS_bind (wpS_pure (wpS_bind (wpS_pure ?_)));rw[lt'_eq];refine wpS_bind (wpS_get ?_);rw[hB.kind];refine wpS_bind (wpS_lift (wpAny_attempt (m9 g1 g2 i1 i2 ⟨rfl,?_⟩)));exact wpS_pure h
theorem fc{α:Type}{r:α->α->Prop}(rf:∀x,r x x)(tr:∀{a b c},r a b->r b c->r a c){K:Nat->α}{x:Nat}(hs:∀i j,i<=j->j<x->r (K i) (K j))(h1:r (K (x - 1)) (K x))(i j:Nat)(hij:i<=j)(hj:j<x+1):r (K i) (K j):=by
 rcases Nat.lt_or_eq_of_le (Mz hj)with w|rfl
 ·exact hs i j hij w
 ·rcases Nat.lt_or_eq_of_le hij with w|rfl
  ·exact tr (hs i (j - 1) (Nat.le_sub_one_of_lt w) (Nat.sub_lt (Nat.zero_lt_of_lt w) (by decide))) h1
  ·exact rf _
theorem qS{α:Type}{r:α->α->Prop}(rf:∀x,r x x){f K:Nat->α}{k l:Nat}(hl:l<=k)(e:∀i,f i=if i=l then K k else if l<i/\i<=k then K (i - 1)else K i)
  (hs:∀i j,i<=j->j<k->r (K i) (K j)) (hlo:∀i,i<l->r (K i) (K k)) (hhi:∀i,l<=i->i<k->r (K k) (K i)) (i j:Nat) (hij:i<=j) (hj:j<k+1):r (f i) (f j):=by
 have f1:∀i,i<l->f i=K i:=λi h=>(e i).trans ((if_neg (L4 h)).trans (if_neg λw=>Nat.lt_asymm h w.1));have f2:f l=K k:=(e l).trans (if_pos rfl);have f3:∀i,l<i+1->i<k->f (i+1)=K i:=λi h h'=>(e (i+1)).trans ((if_neg (Nat.ne_of_gt h)).trans (if_pos ⟨h,h'⟩));rcases Nat.lt_trichotomy j l with h|rfl|h
 ·rw[f1 i (LN hij h),f1 j h];exact hs i j hij (L7 h hl)
 ·rcases Nat.lt_or_eq_of_le hij with w|rfl
  ·rw[f1 i w,f2];exact hlo i w
  ·exact rf _
 ·cases j with
  |zero=>exact absurd h (Mw l)
  |succ j=>
   have hj:=Mn hj;rw[f3 j h hj];rcases Nat.lt_trichotomy i l with w|rfl|w
   ·rw[f1 i w];exact hs i j (LB (Mu w) (Mz h)) hj
   ·rw[f2];exact hhi j (Mz h) hj
   ·cases i with
    |zero=>exact absurd w (Mw l)
    |succ i=>rw[f3 i w (LN (Nat.le_of_succ_le_succ hij) hj)];exact hs i j (Nat.le_of_succ_le_succ hij) hj
theorem wz{st:SortSt}{a n:Nat}{Q:AscSt->SortSt->Prop}(hT:dK s.heap a₀)(hn:n<=a₀.size)(ha:1<=a)(han:a<=n)(hB:SB b a₀ st)(hs:SortedToK (aD s.heap) (arrOf st) a)
  (h:∀m,a<=m->m<=n->SortedToK (aD s.heap) (arrOf st) m->(m=n\/KK (aD s.heap) (arrOf st) m<KK (aD s.heap) (arrOf st) (m - 1))->Q (none,m) st) :
  PyProof.Rows.wpS (model prog w) A E s (ascLoop a n) Q st:=by
 unfold ascLoop;refine wpS_forRange (I:=λx c st'=>st'=st/\c=(none,x)/\SortedToK (aD s.heap) (arrOf st) x) ?_ ?_ ⟨rfl,rfl,hs⟩
 ·rintro x c st' hax hxn ⟨rfl,rfl,hs'⟩;dsimp only;have hz:=L7 hxn hn;refine wpS_bind (pc hT hB hz (LN (Nat.sub_le _ _) hz) ?_)
  by_cases hl:KK (aD s.heap) (arrOf st') x<KK (aD s.heap) (arrOf st') (x - 1)
  ·simp only[hl,decide_true,if_true];exact wpS_pure (h x hax (Mu hxn) hs' (.inr hl))
  ·simp only[hl,decide_false,Bool.false_eq_true,if_false];exact wpS_pure ⟨rfl,rfl,fc (λx=>KeyOrd.kle_refl x) KeyOrd.kle_trans hs' (decide_eq_false hl)⟩
 ·rintro c st' ⟨rfl,rfl,hs'⟩;have e:max a n=n:=Nat.max_eq_right han;rw[e]at hs' ⊢;exact h n han (LZ _) hs' (.inl rfl)
theorem zw{st:SortSt}{m n:Nat}{Q:Option Nat->SortSt->Prop}(hT:dK s.heap a₀)(hn:n<=a₀.size)(h1:1<=m)(hmn:m<=n)(hB:SB b a₀ st)(hs:NonIncK (aD s.heap) (arrOf st) m)
  (h:∀k st',SB b a₀ st'->1<=k->k<=n->SortedToK (aD s.heap) (arrOf st') k->Q (some k) st'):PyProof.Rows.wpS (model prog w) A E s (tail3 m n) Q st:=by
 unfold tail3;have hsz:m<=(arrOf st).size:=hB.size.symm▸LB hmn hn;have hB':SB b a₀ (setArr st (mirror (arrOf st) 0 m ((m - 0) / 2))):=hB.setArr (mirror_perm _ _ _ _);refine wpS_bind (wpS_reverse (wpS_bind (wz hT hn h1 hmn hB' (λi j hij hj=>?_) λk hk1 hk2 hk3 _=>wpS_pure (h k _ hB' (LB h1 hk1) hk2 hk3))));show(aD s.heap).kle (KK (aD s.heap) (mirror (arrOf st) 0 m ((m - 0) / 2)) i) (KK (aD s.heap) (mirror (arrOf st) 0 m ((m - 0) / 2)) j);rw[KK_mirror hsz,KK_mirror hsz,if_pos ⟨Mr _,LN hij hj⟩,if_pos ⟨Mr _,hj⟩];exact hs _ _ (Nat.sub_le_sub_left hij _) (LN (Nat.sub_le _ _) (by rw[Nat.zero_add];exact Nat.sub_lt h1 (by decide)))
theorem zx{st:SortSt}{a n:Nat}{Q:DescSt->SortSt->Prop}(hT:dK s.heap a₀)(hD:Apart s.heap a₀)(hn:n<=a₀.size)(ha:1<=a)(han:a<=n)(hB:SB b a₀ st)(hs:NonIncK (aD s.heap) (arrOf st) a)
  (h:∀m,a<=m->m<=n->NonIncK (aD s.heap) (arrOf st) m->Q (none,m,0) st):PyProof.Rows.wpS (model prog w) A E s (descLoop a n) Q st:=by
 unfold descLoop;refine wpS_forRange (I:=λx c st'=>st'=st/\c=(none,x,0)/\NonIncK (aD s.heap) (arrOf st) x) ?_ ?_ ⟨rfl,rfl,hs⟩
 ·rintro x c st' hax hxn ⟨rfl,rfl,hs'⟩;dsimp only;have hz:=L7 hxn hn;have hy:=LN (Nat.sub_le x 1) hz;refine wpS_bind (pc hT hB hz hy ?_)
  by_cases hl:KK (aD s.heap) (arrOf st') x<KK (aD s.heap) (arrOf st') (x - 1)
  ·simp only[hl,decide_true,if_true];rw[if_neg (Mg 0)];exact wpS_pure ⟨rfl,rfl,fc (r:=λa b=>(aD s.heap).kle b a) (λx=>KeyOrd.kle_refl x) (λh h'=>KeyOrd.kle_trans h' h) hs' (KeyOrd.kle_of_klt (decide_eq_true hl))⟩
  ·simp only[hl,decide_false,Bool.false_eq_true,if_false];refine wpS_bind (pc hT hB hy hz ?_);have hne:=(hD.perm hB.perm).ne (i:=x - 1) (j:=x) (hB.size.symm▸hy) (hB.size.symm▸hz) (L4 (Nat.sub_lt (L7 ha hax) (by decide)))
   have hgt:KK (aD s.heap) (arrOf st') (x - 1)<KK (aD s.heap) (arrOf st') x:=by
    rcases List.le_iff_lt_or_eq.mp (MA.mp hl)with e|e
    ·exact e
    ·exact absurd e hne
   simp -iota only[hgt,decide_true,if_true];exact wpS_pure (h x hax (Mu hxn) hs')
 ·rintro c st' ⟨rfl,rfl,hs'⟩;have e:max a n=n:=Nat.max_eq_right han;rw[e]at hs' ⊢;exact h n han (LZ _) hs'
theorem pd{st:SortSt}{m n:Nat}{Q:Option Nat->SortSt->Prop}(hT:dK s.heap a₀)(hD:Apart s.heap a₀)(hn:n<=a₀.size)(hmn:m+1<=n)(hB:SB b a₀ st)(hs:NonIncK (aD s.heap) (arrOf st) (m+1))
  (h:∀k st',SB b a₀ st'->1<=k->k<=n->SortedToK (aD s.heap) (arrOf st') k->Q (some k) st'):PyProof.Rows.wpS (model prog w) A E s (descPart m n) Q st:=by
 unfold descPart;refine wpS_bind (wpS_lift (wpAny_rule ⟨rfl,?_⟩));refine wpS_bind (zx hT hD hn (Ms m) hmn hB hs λk hk1 hk2 hk3=>?_);dsimp only;rw[if_neg (Mg 0)];exact zw hT hn (LB (Ms m) hk1) hk2 hB hk3 h
theorem qT(xs:Array Keyed)(h:Heap):SortedToK (aD h) xs 1:=λi j hij hj=>by
 cases Nat.le_zero.mp (Mz hj);cases Nat.le_zero.mp hij;exact KeyOrd.kle_refl _
theorem pf{st:SortSt}{n:Nat}{Q:Option Nat->SortSt->Prop}(hT:dK s.heap a₀)(hD:Apart s.heap a₀)(hn:n<=a₀.size)(h1:1<=n)(hB:SB b a₀ st)
  (h:∀k st',SB b a₀ st'->1<=k->k<=n->SortedToK (aD s.heap) (arrOf st') k->Q (some k) st'):PyProof.Rows.wpS (model prog w) A E s (countRun' 0 n) Q st:=by
 rw[countRun0_eq];refine wpS_bind (wz hT hn (LZ 1) h1 hB (qT _ _) λm hm1 hm2 hm3 hor=>?_);dsimp only
 by_cases hmn:m=n
 ·rw[if_pos (by simpa using hmn)];exact wpS_pure (h m st hB hm1 hm2 hm3)
 ·rw[if_neg (by simpa using hmn)];have hlt:=hor.resolve_left hmn
  by_cases hgt:m > 1
  ·rw[if_pos hgt];have hy:=Nat.sub_lt hm1 (by decide:0<1);have hz:=L7 hy (LB hm2 hn);have h0:=LN (Mr _) hz;refine wpS_bind (pc hT hB h0 hz ?_);have hne:=(hD.perm hB.perm).ne (i:=0) (j:=m - 1) (hB.size.symm▸h0) (hB.size.symm▸hz) (L4 (Nat.sub_pos_of_lt hgt))
   have hrose:KK (aD s.heap) (arrOf st) 0<KK (aD s.heap) (arrOf st) (m - 1):=by
    have:=hm3 0 (m - 1) (Mr _) hy;unfold KeyOrd.kle at this;simp only[decide_eq_false_iff_not]at this;rcases List.le_iff_lt_or_eq.mp (MA.mp this)with e|e
    ·exact e
    ·exact absurd e hne
   simp -iota only[hrose,decide_true,if_true];exact wpS_pure (h m st hB hm1 hm2 hm3)
  ·rw[if_neg hgt];cases Nat.le_antisymm (Nat.le_of_not_lt hgt) hm1;exact pd hT hD hn (Nat.lt_of_le_of_ne h1 hmn) hB (fc (r:=λa b=>(aD s.heap).kle b a) (λx=>KeyOrd.kle_refl x) (λh h'=>KeyOrd.kle_trans h' h) (λi j hij hj=>by cases Nat.le_zero.mp (Mz hj);cases Nat.le_zero.mp hij;exact KeyOrd.kle_refl _) (KeyOrd.kle_of_klt (decide_eq_true hlt))) h
end
theorem CO{l r:Nat}(h:l<r):l<=(l+r) / 2/\(l+r) / 2<r:=
 ⟨(Nat.le_div_iff_mul_le (by decide)).mpr (Nat.mul_two l▸LV (Mu h) l),Nat.div_lt_of_lt_mul (Nat.two_mul r▸Nat.add_lt_add_right h r)⟩
noncomputable section
def ed(prog:Program)(w:World)(A:Around)(E:Value->Shared->Prop)(s:Shared)(a₀:Array Keyed)(b:Bool)(k:Nat):Prop:=
 ∀{st:SortSt}{Q:Option Bool × Nat × Nat->SortSt->Prop}(hT:dK s.heap a₀)(hk:k<a₀.size)(hB:SB b a₀ st)(hs:SortedToK (aD s.heap) (arrOf st) k)(h:∀l,l<=k->(∀i,i<l->(aD s.heap).kle (KK (aD s.heap) (arrOf st) i) (KK (aD s.heap) (arrOf st) k))->(∀i,l<=i->i<k->(aD s.heap).klt (KK (aD s.heap) (arrOf st) k) (KK (aD s.heap) (arrOf st) i))->Q (none,l,l) st),PyProof.Rows.wpS (model prog w) A E s (forIn [0:k] ((none,0,k):Option Bool × Nat × Nat) λ_ c=>if c.2.1>=c.2.2 then pure (ForInStep.done (none,c.2.1,c.2.2))else do
   let x <-ltAt' k ((c.2.1+c.2.2) / 2)
   match x with
   |some less=>if less=true then pure (ForInStep.yield (none,c.2.1,(c.2.1+c.2.2) / 2))else pure (ForInStep.yield (none,(c.2.1+c.2.2) / 2+1,c.2.2))
   |_=>pure (ForInStep.done (some false,c.2.1,c.2.2))) Q st
namespace KwT_place
def z:=ep (V8 ed)
def s:=z.2.2.2.2.1
def k:=z.2.2.2.2.2.2.2
theorem T:ed z.1 z.2.1 z.2.2.1 z.2.2.2.1 s z.2.2.2.2.2.1 z.2.2.2.2.2.2.1 k:=by
 intro st Q hT hk hB hs h
 refine wpS_forRange (I:=λx c st'=>st'=st/\∃l r,c=(none,l,r)/\l<=r/\r<=k/\r - l<=k - x/\
   (∀i,i<l->(aD s.heap).kle (KK (aD s.heap) (arrOf st) i) (KK (aD s.heap) (arrOf st) k))/\(∀i,r<=i->i<k->(aD s.heap).klt (KK (aD s.heap) (arrOf st) k) (KK (aD s.heap) (arrOf st) i))) ?_ ?_
  ⟨rfl,0,k,rfl,Mr _,LZ _,LZ _,λi hi=>absurd hi (Mw _),λi h1 h2=>absurd h2 (Nat.not_lt.mpr h1)⟩
 ·rintro x c st' _ hx ⟨rfl,l,r,rfl,hlr,hrk,hm,hlo,hhi⟩;dsimp only
  by_cases hge:l>=r
  ·rw[if_pos hge];have:l=r:=Nat.le_antisymm hlr hge;subst this;exact wpS_pure (h l hrk hlo hhi)
  ·rw[if_neg hge];obtain⟨g1,g2⟩:=CO (Nat.lt_of_not_le hge);generalize (l+r) / 2=m at *;have g3:=L7 g2 hrk;have g4 {a:Nat} (h:a<r - l):a<=k - (x+1):=Nat.le_sub_one_of_lt (L7 h hm);refine wpS_bind (pc hT hB hk (Nat.lt_trans g3 hk) ?_)
   by_cases hl:KK (aD s.heap) (arrOf st') k<KK (aD s.heap) (arrOf st') m
   ·simp -iota only[hl,decide_true,if_true];refine wpS_pure ⟨rfl,l,m,rfl,g1,Mu g3,g4 (Nat.sub_lt_sub_right g1 g2),hlo,λi h1 h2=>?_⟩;exact KeyOrd.klt_of_klt_of_kle (by unfold KeyOrd.klt;simpa using hl) (hs _ _ h1 h2)
   ·simp -iota only[hl,decide_false,Bool.false_eq_true,if_false];refine wpS_pure ⟨rfl,m+1,r,rfl,g2,hrk,g4 (Nat.sub_lt_sub_left (Nat.lt_of_not_le hge) (Nat.lt_succ_of_le g1)),λi h1=>?_,hhi⟩;exact KeyOrd.kle_trans (hs i m (Mz h1) g3) (by unfold KeyOrd.kle;simpa using hl)
 ·rintro c st' ⟨rfl,l,r,rfl,hlr,hrk,hm,hlo,hhi⟩;have:l=r:=Nat.le_antisymm hlr (Nat.le_of_sub_eq_zero (Nat.le_zero.mp (Nat.sub_self k▸hm)));subst this;exact h l hrk hlo hhi
end KwT_place
end
theorem wA{prog w A E s a₀ b k}:ed prog w A E s a₀ b k:=cN (p:=V8 ed) KwT_place.T (prog,w,A,E,s,a₀,b,k)
section
variable{prog:Program}{w:World}{A:Around}{E:Value->Shared->Prop}{s:Shared}{a₀:Array Keyed}{b:Bool}
theorem uk{st:SortSt}{n ok:Nat}{Q:Bool->SortSt->Prop}(hT:dK s.heap a₀)(hn:n<=a₀.size)(hok:ok<=n)(h1:1<=ok)(hB:SB b a₀ st)(hs:SortedToK (aD s.heap) (arrOf st) ok)
  (h:∀st',SB b a₀ st'->SortedToK (aD s.heap) (arrOf st') n->Q true st'):PyProof.Rows.wpS (model prog w) A E s (binarySort' 0 n ok) Q st:=by
 rw[binarySort'_eq];simp -iota only[Nat.zero_add];rw[Nat.max_eq_left h1];refine wpS_bind (wpS_forRange (I:=λk c st'=>c=(none,())/\SB b a₀ st'/\SortedToK (aD s.heap) (arrOf st') k) ?_ ?_ ⟨rfl,hB,hs⟩)
 ·rintro k c st' hak hkn ⟨rfl,hB',hs'⟩;have hz:=L7 hkn hn;refine wpS_bind (wA hT hz hB' hs' λl hl hlo hhi=>?_);dsimp only;rw[moveDown'_eq]
  exact wpS_bind (wpS_modify (wpS_pure ⟨rfl,hB'.setArr (bubble_perm _ _ _),qS (λx=>KeyOrd.kle_refl x) (f:=KK (aD s.heap) (bubble (arrOf st') k (k - l))) hl
   (λi=>by have e:=KK_bubble (κ:=aD s.heap) (hB'.size.symm▸hz) (Nat.sub_le k l) i;rwa[Nat.sub_sub_self hl]at e) hs' hlo λi a b=>KeyOrd.kle_of_klt (hhi i a b)⟩))
 ·rintro c st' ⟨rfl,hB',hs'⟩;rw[Nat.max_eq_right hok]at hs';exact wpS_pure (h st' hB' hs')
end
noncomputable section
def fO(prog:Program)(w:World)(A:Around)(E:Value->Shared->Prop)(s:Shared)(a₀:Array Keyed)(b:Bool):Prop:=
 ∀{st:SortSt}{Q:Unit->SortSt->Prop}(hT:dK s.heap a₀)(hD:Apart s.heap a₀)(hB:SB b a₀ st)(h2:2<=a₀.size)(h64:a₀.size<64)(h:∀st',(arrOf st').Perm a₀->failedOf st'=none->SortedToK (aD s.heap) (arrOf st') a₀.size->Q () st'),PyProof.Rows.wpS (model prog w) A E s sortRuns' Q st
namespace KwT_runs
def z:=ep (V7 fO)
def s:=z.2.2.2.2.1
def a₀:=z.2.2.2.2.2.1
theorem T:fO z.1 z.2.1 z.2.2.1 z.2.2.2.1 s a₀ z.2.2.2.2.2.2:=by
 intro st Q hT hD hB h2 h64 h;rw[sortRuns'_eq];refine wpS_bind (wpS_get ?_);dsimp only
 have hmr:minRun' a₀.size a₀.size 0=a₀.size:=by
  obtain⟨f,hf⟩ : ∃f,a₀.size=f+1:=⟨a₀.size - 1,by omega⟩;have:minRun' (f+1) a₀.size 0=a₀.size:=by rw[minRun'_succ,if_pos h64];rfl
  rwa[<-hf]at this
 simp only[hB.size,hmr]
 refine wpS_bind (wpS_mono (wpS_forRange
  (I:=λx c st'=>(x=0/\c=(none,0)/\SB z.2.2.2.2.2.2 a₀ st')\/(1<=x/\c=(none,a₀.size)/\(arrOf st').Perm a₀/\failedOf st'=none/\pendingOf st' = #[(0,a₀.size,0)]/\SortedToK (aD s.heap) (arrOf st') a₀.size))
  (Q:=λc st'=>c=(none,a₀.size)/\(arrOf st').Perm a₀/\failedOf st'=none/\pendingOf st' = #[(0,a₀.size,0)]/\SortedToK (aD s.heap) (arrOf st') a₀.size)
  ?_ ?_ (.inl ⟨rfl,rfl,hB⟩)) ?_)
 ·rintro x c st' _ hx (⟨rfl,rfl,hB'⟩|⟨hx1,rfl,hD1⟩)
  ·dsimp only;rw[if_neg (by omega)];simp only[Nat.sub_zero,Nat.min_self,Nat.zero_add];refine wpS_bind (pf hT hD (LZ _) (by omega) hB' λm st2 hB2 hm1 hm2 hs2=>?_);dsimp only
   by_cases hlt:m<a₀.size
   ·rw[if_pos hlt];refine wpS_bind (wpS_lift (wpAny_rule ⟨rfl,?_⟩));refine wpS_bind (uk hT (LZ _) hm2 hm1 hB2 hs2 λst3 hB3 hs3=>?_);simp only[Bool.not_true,Bool.false_eq_true,if_false];refine wpS_bind (wpS_get ?_);rw[show(pendingOf st3).back? = none by rw[hB3.pend];rfl];dsimp only;refine wpS_bind (wpS_modify (wpS_pure (.inr ⟨by omega,rfl,hB3.perm,hB3.failed,?_,hs3⟩)));show(pendingOf st3).push _=_;rw[hB3.pend];rfl
   ·rw[if_neg hlt];have hm:m=a₀.size:=by lia
    subst hm;refine wpS_bind (wpS_get ?_);rw[show(pendingOf st2).back? = none by rw[hB2.pend];rfl];dsimp only;refine wpS_bind (wpS_modify (wpS_pure (.inr ⟨by omega,rfl,hB2.perm,hB2.failed,?_,hs2⟩)));show(pendingOf st2).push _=_;rw[hB2.pend];rfl
  ·dsimp only;rw[if_pos (LZ _)];exact wpS_pure ⟨rfl,hD1⟩
 ·rintro c st' (⟨hx,_,_⟩|⟨_,hc,hD1⟩)
  ·omega
  ·exact⟨hc,hD1⟩
 ·rintro c st' ⟨rfl,p1,p2,p3,p4⟩;dsimp only;refine wpS_bind (wpS_mono (wpS_forRange (I:=λ_ c st''=>st''=st'/\c=(none,())) (Q:=λc st''=>st''=st'/\c=(none,())) ?_ (λ_ _ hh=>hh) ⟨rfl,rfl⟩) ?_)
  ·rintro x c st'' _ _ ⟨rfl,rfl⟩;refine wpS_bind (wpS_get ?_);rw[if_pos (by rw[p3];exact LZ 1)];exact wpS_pure ⟨rfl,rfl⟩
  ·rintro c st'' ⟨rfl,rfl⟩;exact wpS_pure (h _ p1 p2 p4)
end KwT_runs
end
theorem zy{prog w A E s a₀ b}:fO prog w A E s a₀ b:=cN (p:=V7 fO) KwT_runs.T (prog,w,A,E,s,a₀,b)
theorem qU{xs:List V}:pU xs=true->∃l:List Int,xs=l.map .int:=by
 induction xs with
 |nil=>exact λ_=>⟨[],rfl⟩
 |cons x r ih=>exact kI (d:=false) (P:=λx b=>b=true->∃l:List Int,x::r=l.map .int) (λh=>(by cases h)) λi h=>(ih h).elim λl e=>⟨i::l,e▸rfl⟩
variable{G:Cx}
variable{h h':Heap}
def TA(X:Av)(h:Heap)(vs:List Value)(ls:List (List Int)):Prop:=
 (∀v∈vs,∃a ts n l,v = .ref a/\¬X a/\h.get? a=some (cS ts n)/\bp ts=some l/\l≠[]/\l.length<=aq)/\ls=vs.map λv=>(hM h v).getD []
theorem sq{X:Av}{l:List Int}:∀{ts:List Value},RelL G X h (l.map .int) ts->bp ts=some l:=by
 induction l with
 |nil=>exact λr=>(show _=[]from r)▸rfl
 |cons i l ih=>exact λr=>bY r λv q rv rr=>(show ∃t,v = .int i t from rv).elim λt e=>e▸congrArg (Option.map (i::·)) (ih rr)
theorem wB{X:Av}{ts:List Value}:∀{l:List Int},bp ts=some l->RelL G X h (l.map .int) ts:=by
 induction ts with
 |nil=>intro l e;cases e;rfl
 |cons t ts ih=>
  intro l e
  cases t with
  |int i u=>exact lw e λm e1 e2=>e2▸⟨_,_,rfl,⟨u,rfl⟩,ih e1⟩
  |_=>exact(by cases e)
theorem nf{a:Addr}{ts:List Value}{n:Nat}{l:List Int}(g:h.get? a=some (cS ts n))(e:bp ts=some l):(hM h (.ref a)).getD []=l:=by simp[hM,g,e]
theorem EU{X:Av}{xs:List V}:∀{vs:List Value},mu xs=true->RelL G X h xs vs->∃ls,xs=ls.map rR/\TA X h vs ls:=by
 induction xs with
 |nil=>exact λ_ r=>⟨[],rfl,(show _=[]from r)▸⟨λ_ m=>(by cases m),rfl⟩⟩
 |cons x xs ih=>
  exact λht r=>bY r λv q rx rr=>kT (d:=false) (f:=λzs=>pU zs&&decide (zs.length=3)&&mu xs) (P:=λx b=>Rel G X h x v->b=true->∃ls,x::xs=ls.map rR/\TA X h (v::q) ls) (λ_ w=>(by cases w))
   (λzs rx ht=>gF ht λh1 h2 h3=>(qU h1).elim λl el=>(ih h3 rr).elim λls w=>by
    subst el;obtain⟨z,a,us,n,rfl,nx,g,rl⟩:=(show _/\∃b vs n,_ from rx);refine⟨l::ls,congrArg (_::·) w.1,λv m=>(LI.mp m).elim (λe=>⟨a,us,n,l,e,nx,g,sq rl,λw=>?_,LF (α:=Int) _▸z⟩) (w.2.1 v),w.2.2▸congrArg (·::_) (nf g (sq rl)).symm⟩;subst w
    exact(by cases h2)) rx ht
theorem CP{X:Av}{vs:List Value}:∀{ls:List (List Int)},TA X h vs ls->RelL G X h (ls.map rR) vs:=by
 induction vs with
 |nil=>exact λt=>t.2▸rfl
 |cons v vs ih=>
  intro ls t;obtain⟨a,ts,n,l,rfl,nx,g,e,_,z⟩:=t.1 v (.head _);exact t.2▸⟨_,_,rfl,(congrArg (λl=>Rel G X h (rR l) (.ref a)) (nf g e)).mpr ⟨(LF (α:=Int) _).symm▸z,a,ts,n,rfl,nx,g,wB e⟩,ih ⟨λv m=>t.1 v (.tail _ m),rfl⟩⟩
theorem TA.keeps{X:Av}(k:∀b,¬X b->∀ts n,h.get? b=some (cS ts n)->h'.get? b=some (cS ts n)){vs:List Value}{ls:List (List Int)}(t:TA X h vs ls):TA X h' vs ls:=
 ⟨λv m=>by obtain⟨a,ts,n,l,e,nx,g,r⟩:=t.1 v m;exact⟨a,ts,n,l,e,nx,k a nx ts n g,r⟩,
  t.2.trans (List.map_congr_left λv m=>by obtain⟨a,ts,n,l,rfl,nx,g,e,_⟩:=t.1 v m;exact(nf g e).trans (nf (k a nx ts n g) e).symm)⟩
theorem TA.mem{X:Av}{vs:List Value}{ls:List (List Int)}(t:TA X h vs ls):∀v∈vs,∃a ts n l,v = .ref a/\¬X a/\h.get? a=some (cS ts n)/\bp ts=some l/\l≠[]/\l.length<=aq:=t.1
theorem TA.map{X:Av}{vs:List Value}{ls:List (List Int)}(t:TA X h vs ls):ls=vs.map λv=>(hM h v).getD []:=t.2
theorem TA.of{X:Av}{vs:List Value}(hv:∀v∈vs,∃a ts n l,v = .ref a/\¬X a/\h.get? a=some (cS ts n)/\bp ts=some l/\l≠[]/\l.length<=aq):TA X h vs (vs.map λv=>(hM h v).getD []):=⟨hv,rfl⟩
theorem TA.length{X:Av}{vs:List Value}{ls:List (List Int)}(t:TA X h vs ls):ls.length=vs.length:=t.2▸LF _
end J.Internal
namespace J.Internal
theorem hU{α:Type}:∀l:List α,l.zip l=l.map λx=>(x,x)
 |[]=>rfl
 |x::r=>by simp[hU r]
theorem su{α:Type}(l:List α):(l.zip l).map (·.1)=l:=by rw[hU];simp[Function.comp_def]
theorem TA.tups{X:Av}{h:Heap}{vs:List Value}{ls:List (List Int)}(t:TA X h vs ls):dK h (pairsOf vs):=by
 intro p hp;rw[pairsOf_toList]at hp;obtain⟨a,ts,n,l,e,_,g,e1,_⟩:=t.mem p.1 (mem_zip_self hp).2;exact⟨a,ts,n,l,e,g,e1⟩
theorem TA.apart{X:Av}{h:Heap}{vs:List Value}{ls:List (List Int)}(t:TA X h vs ls)(nd:ls.Nodup):Apart h (pairsOf vs):=by
 unfold Apart;rw[pairsOf_toList]
 have e:(vs.zip vs).map (λp=>(hM h p.1).getD [])=ls:=by
  rw[t.map];have:=congrArg (List.map λv=>(hM h v).getD []) (su vs);rw[L5]at this;exact this
 rw[e];exact nd
theorem ul{ts:List Value}{l:List Int}(e:bp ts=some l)(h:l≠[]):∃x t r,ts = .int x t::r:=by
 cases ts with
 |nil=>exact absurd (LM e).symm h
 |cons u ts=>
  cases u with
  |int x t=>exact⟨x,t,ts,rfl⟩
  |_=>exact(by cases e)
theorem TA.firsts{X:Av}{h:Heap}{vs:List Value}:∀{ls:List (List Int)},TA X h vs ls->∃fs,KatTups h vs fs/\fs.length=vs.length/\∀v∈fs,∃x t,v = .int x t:=by
 induction vs with
 |nil=>exact λ_=>⟨[],trivial,rfl,λ_ m=>(by cases m)⟩
 |cons v vs ih=>
  intro ls t;obtain⟨a,ts,n,l,rfl,nx,g,e,e2,z⟩:=t.1 v (.head _);obtain⟨x,u,r,rfl⟩:=ul e e2;obtain⟨fs,k1,k2,k3⟩:=ih ⟨λv m=>t.1 v (.tail _ m),rfl⟩;exact⟨.int x u::fs,⟨⟨a,_,_,n,rfl,g,rfl,rfl,rfl⟩,k1⟩,congrArg (· + 1) k2,λv hv=>(LI.mp hv).elim (λw=>⟨x,u,w⟩) (k3 v)⟩
theorem wC{X:Av}{h:Heap}{vs:List Value}{ls:List (List Int)}{xs:Array Keyed}(t:TA X h vs ls)(hp:xs.Perm (pairsOf vs))(hs:SortedToK (aD h) xs (pairsOf vs).size) :
  TA X h (xs.map (·.2)).toList (iX pY ls []):=by
 have hl:xs.toList.Perm (vs.zip vs):=by rw[<-pairsOf_toList];exact Array.perm_iff_toList_perm.mp hp
 have hmem:∀p,p∈xs.toList->p.1=p.2/\p.1∈vs:=λp hp'=>mem_zip_self (hl.mem_iff.mp hp')
 have e:(xs.map (·.2)).toList=xs.toList.map (·.1):=by
  rw[Array.toList_map];exact List.map_congr_left λp hp'=>(hmem p hp').1.symm
 rw[e]
 have hpv:(xs.toList.map (·.1)).Perm vs:=by
  have:=hl.map (·.1);rwa[su]at this
 have ta:=TA.of (h:=h) (X:=X) (vs:=xs.toList.map (·.1)) λv hv=>t.mem v (hpv.mem_iff.mp hv)
 have hu:=oh u5 u6 u7 (xs:=ls) (ys:=(xs.toList.map (·.1)).map λv=>(hM h v).getD []) (by rw[t.map];exact hpv.map _) (by
  rw[L5];rw[List.pairwise_iff_getElem];intro i j hi hj hij;have hj':j<xs.size:=by simpa using hj
  have hi':i<xs.size:=by omega
  have:=hs i j (Mu hij) (by rw[<-hp.size_eq];exact hj');rw[o9 hi',o9 hj']at this;simp only[List.getElem_map,Function.comp_apply,Array.getElem_toList]
  exact this)
 rw[<-hu];exact ta
noncomputable section
def fP(prog:Program)(w:World)(A:Around)(E:Value->Shared->Prop)(s:Shared)(X:Av)(ls:List (List Int))(a:Addr)(vs:List Value)(n:Nat)(P:PySem.Fin->Shared->Prop):Prop:=
 ∀(ho:s.heap.get? a=some (seqObj "list" vs.toArray n))(t:TA X s.heap vs ls)(nd:ls.Nodup)(h64:vs.length<64)(h:∀out,TA X (sortedHeap s.heap a vs out) out.toList (iX pY ls [])->P (.done (.ret .none)) {s with heap:=sortedHeap s.heap a vs out}),wpAny (model prog w) A (Builtin.«list.sort» ⟨[.ref a],[]⟩) P E s
namespace KwT_tree
def z:=ep (BM fP)
def s:=z.2.2.2.2.1
def ls:=z.2.2.2.2.2.2.1
def a:=z.2.2.2.2.2.2.2.1
def vs:=z.2.2.2.2.2.2.2.2.1
def n:=z.2.2.2.2.2.2.2.2.2.1
def P:=z.2.2.2.2.2.2.2.2.2.2
theorem T:fP z.1 z.2.1 z.2.2.1 z.2.2.2.1 s z.2.2.2.2.2.1 ls a vs n P:=by
 intro ho t nd h64 h;rw[list_sort_plain];have ha:a<s.heap.objs.size:=Heap.lt_size ho;refine wpAny_bind (listItems_at ho rfl ?_);refine wpAny_bind (listUpdate_at ho rfl ?_);obtain⟨e1,ho1⟩ : ∃e1,(s.heap.update a (Obj.mapSeq λ_=>#[])).get? a=some (seqObj "list" #[] e1):=⟨_,get?_update_seq ho (λ_=>#[])⟩;refine wpAny_bind (seqEpoch_at ho1 rfl ?_);refine wpAny_bind (wpAny_newTuple ?_);refine wpAny_bind (wpAny_newList ?_);refine wpAny_holding ?_
 have ho6:(((s.heap.update a (Obj.mapSeq λ_=>#[])).push (seqObj "tuple" vs.toArray 0)).push (seqObj "list" #[] 0)).get? a=some (seqObj "list" #[] e1):=by
  rw[Heap.get?_push_ne _ _ _ (by rw[size_push',Heap.size_update];exact L4 (Nat.lt_succ_of_lt ha)),Heap.get?_push_ne _ _ _ (by rw[Heap.size_update];exact L4 ha)];exact ho1
 have t6:TA z.2.2.2.2.2.1 (((s.heap.update a (Obj.mapSeq λ_=>#[])).push (seqObj "tuple" vs.toArray 0)).push (seqObj "list" #[] 0)) vs ls:=t.keeps λb _ ts n g=>by
  have hb:b<s.heap.objs.size:=Heap.lt_size g;rw[Heap.get?_push_ne _ _ _ (by rw[size_push',Heap.size_update];exact L4 (Nat.lt_succ_of_lt hb)),Heap.get?_push_ne _ _ _ (by rw[Heap.size_update];exact L4 hb),Heap.get?_update_ne _ _ _ _ (λe=>?_)]
  ·exact g
  ·subst e;rw[ho]at g;have:=congrArg (λo:Option Obj=>o.map (·.cls)) g;simp[seqObj,cS]at this
 show wpAny (model z.1 z.2.1) z.2.2.1 _ P z.2.2.2.1 {s with heap:=((s.heap.update a (Obj.mapSeq λ_=>#[])).push (seqObj "tuple" vs.toArray 0)).push (seqObj "list" #[] 0)};dsimp only;have hsz:vs.toArray.size=vs.length:=by simp
 have fin:∀st':SortSt,(arrOf st').Perm (pairsOf vs)->SortedToK (aD (((s.heap.update a (Obj.mapSeq λ_=>#[])).push (seqObj "tuple" vs.toArray 0)).push (seqObj "list" #[] 0))) (arrOf st') (pairsOf vs).size->P (.done (.ret .none)) {s with heap:=sortedHeap s.heap a vs ((arrOf st').map (·.2))}:=by
  intro st' hp hs;refine h _ ((wC t6 hp hs).keeps λb _ ts n g=>?_);unfold sortedHeap;rw[Heap.get?_update_ne _ _ _ _ (λe=>?_)]
  ·exact g
  ·subst e;rw[ho6]at g;have:=congrArg (λo:Option Obj=>o.map (·.cls)) g;simp[seqObj,cS]at this
 by_cases h2:vs.toArray.size<2
 ·rw[if_pos h2,if_pos h2];refine wpAny_bind (wpAny_pure ?_);rw[StateT.run_pure];refine wpAny_bind (wpAny_pure ?_);dsimp only;refine wpAny_bind (seqEpoch_at ho6 rfl ?_);refine wpAny_bind (listUpdate_at ho6 rfl ?_ (hsz2:=by rw[Array.size_map];show(pairsOf vs).size<=_;rw[pairsOf_size,sizeLine_eq];omega));simp only[bne_self_eq_false,Bool.false_eq_true,if_false];refine wpAny_pure (fin (SortSt.mk' general' (vs.toArray.zip vs.toArray) #[] 7 none) (Array.Perm.refl _) ?_);intro i j hij hj;have:i=j:=by rw[pairsOf_size]at hj;lia
  subst this;exact KeyOrd.kle_refl _
 ·rw[if_neg h2,if_neg h2];obtain⟨fs,k1,k2,k3⟩:=t6.firsts;refine wpAny_bind (kat_kind (T:=.type "int") k1 (by omega) (λv hv=>?_) rfl ?_)
  ·obtain⟨x,q,rfl⟩:=k3 v hv;exact .now
  refine wpAny_bind (wpAny_mono (zy (a₀:=pairsOf vs) (st:=SortSt.mk' (tuples' (Value.type "int" != Value.type "tuple")) (vs.toArray.zip vs.toArray) #[] 7 none)
   (Q:=λ_ st'=>(arrOf st').Perm (pairsOf vs)/\failedOf st'=none/\SortedToK (aD (((s.heap.update a (Obj.mapSeq λ_=>#[])).push (seqObj "tuple" vs.toArray 0)).push (seqObj "list" #[] 0))) (arrOf st') (pairsOf vs).size)
   t6.tups (t6.apart nd) ⟨Array.Perm.refl _,rfl,rfl,rfl⟩ (by rw[pairsOf_size];omega) (by rw[pairsOf_size];exact h64) λst' a1 a2 a3=>⟨a1,a2,a3⟩) ?_ λ_ _ e=>e)
  rintro⟨⟨⟩,st'⟩ s' ⟨rfl,hp,hf,hs⟩;dsimp only;refine wpAny_bind (seqEpoch_at ho6 rfl ?_);refine wpAny_bind (listUpdate_at ho6 rfl ?_ (hsz2:=by refine LB (Ma ((Array.size_map ..).trans (hp.size_eq.trans (pairsOf_size _)))) ?_;rw[sizeLine_eq];omega));rw[hf];simp only[bne_self_eq_false,Bool.false_eq_true,if_false];exact wpAny_pure (fin st' hp hs)
end KwT_tree
end
theorem zA{prog w A E s X ls a vs n P}:fP prog w A E s X ls a vs n P:=cN (p:=BM fP) KwT_tree.T (prog,w,A,E,s,X,ls,a,vs,n,P)
theorem wE(l:List Int):rO (rR l) (rR l)=false:=match l with
 |[]=>rfl
 |i::_=>bne_self_eq_false i
theorem um{l:List Int}{ls:List (List Int)}(h:(ls.map rR).all (rO (rR l))=true):l∉ls:=λw=>L8 ((wE l).symm.trans (L9.mp h _ (List.mem_map_of_mem w)))
theorem pg:∀{ls:List (List Int)},jG (ls.map rR)=true->ls.Nodup:=by
 intro ls
 induction ls with
 |nil=>
  intro _;exact .nil
 |cons l ls ih=>
  intro h;have h:=LD.mp (show(_&&_)=true from h);exact Mp.mpr ⟨um h.1,ih h.2⟩
variable{G:Cx}
variable{F:Av}{A:Around}{ρ:List (Addr × Addr)}{H:Hp}{s:Shared}{Z:Option (Option Addr)->Prop}
section
variable{sc:Scope}{nm:List Str}{env:Env}{σ:ai}{x:Str}{n:Nat}
theorem lF{xs:List V}{x:Value}(I:Inv G F A sc nm env ρ H σ s)(r:TRel G ρ (F.or (aj ρ H)) s.heap (.lst xs) x) :
  Wps G F al A ρ H s (call (fB .sorted) [x]) (RV G F) Z (bG .sorted (.lst xs) H):=by
 refine Wps.guard λhg=>?_;simp only[Bool.and_eq_true,decide_eq_true_eq]at hg;obtain⟨⟨g1,g2⟩,h64⟩:=hg;have r':Rel G (F.or (aj ρ H)) s.heap (.lst xs) x:=r;obtain⟨z,a,vs,m,rfl,nx,g,l⟩:=r';obtain⟨ls,rfl,ta⟩:=EU g1 l;have nd:=pg g2;have hvl:vs.length<64:=by rw[<-ta.length];simpa using h64
 refine ah (Calls.call_function_entry kind_sorted plain_sorted entry_sorted (args_sorted1 _) ?_);unfold Builtin.«sorted»;refine wpAny_bind (m:=checkCount "sorted" 1 1 _) (wpAny_pure ?_);refine wpAny_bind (collect_list (aY g) ?_ (by rw[sizeLine_eq];omega));refine wpAny_bind (wpAny_newList ?_ (by rw[sizeLine_eq];omega))
 have hsz:((s.heap.push (seqObj "list" #[] 0)).update s.heap.objs.size (Obj.mapSeq (·++vs.toArray))).objs.size=s.heap.objs.size+1:=by
  rw[Heap.size_update,size_push']
 have hoL:(((s.heap.push (seqObj "list" #[] 0)).update s.heap.objs.size (Obj.mapSeq (·++vs.toArray))).push (seqObj "list" vs.toArray 0)).get? (s.heap.objs.size+1)=some (seqObj "list" vs.toArray 0):=by
  rw[<-hsz];exact Heap.get?_push_size _ rfl
 have keep:∀b o,s.heap.get? b=some o->(((s.heap.push (seqObj "list" #[] 0)).update s.heap.objs.size (Obj.mapSeq (·++vs.toArray))).push (seqObj "list" vs.toArray 0)).get? b=some o:=λb o q=>by
  have hlt:b<s.heap.objs.size:=Heap.lt_size q;rw[Heap.get?_push_ne _ _ _ (by rw[hsz];exact L4 (Nat.lt_succ_of_lt hlt)),Heap.get?_update_ne _ _ _ _ (L4 hlt),Heap.get?_push_ne _ _ _ (L4 hlt)];exact q
 show wpAny _ _ _ _ _ {s with heap:=((s.heap.push (seqObj "list" #[] 0)).update s.heap.objs.size (Obj.mapSeq (·++vs.toArray))).push (seqObj "list" vs.toArray 0)};rw[hsz];refine wpAny_bind (wpAny_holding (wpAny_call_entry slot_list_sort ⟨_,hoL,rfl⟩ entry_list_sort (zA hoL (ta.keeps λb _ ts n q=>keep b _ q) nd hvl λout ho=>⟨_,rfl,?_⟩) (args_list_sort _)));refine wpAny_pure ⟨_,rfl,?_⟩;generalize hH:((s.heap.push (seqObj "list" #[] 0)).update s.heap.objs.size (Obj.mapSeq (·++vs.toArray))).push (seqObj "list" vs.toArray 0)=h1 at *;obtain⟨e5,g5⟩:=sortedHeap_at (vs:=vs) (out:=out) hoL
 have k5:∀b o,s.heap.get? b=some o->(sortedHeap h1 (s.heap.objs.size+1) vs out).get? b=some o:=λb o e=>by
  have e1:=keep b o e;rw[sortedHeap_old (L4 (Nat.lt_succ_of_lt (Heap.lt_size e))) (Heap.lt_size e1)];exact e1
 have af:Aft G F al ρ H s ρ H {s with heap:=sortedHeap h1 (s.heap.objs.size+1) vs out}:=.keeps I.sr ⟨_,s.toks,rfl⟩ k5;refine⟨ρ,af,?_⟩;show Rel _ _ _ _ _;have hu:iX D2 (ls.map rR) []=(iX pY ls []).map rR:=rQ (f:=rR) rS ls [];rw[hu];show _/\∃a vs n,_;refine⟨by have:=(eU (lt:=pY) ls []).length_eq;simp only[List.length_map,List.append_nil]at this z ⊢;lia,s.heap.objs.size+1,out.toList,e5,rfl,?_,by rw[bD,Array.toArray_toList];exact g5,CP ho⟩;intro w
 have:∃o,s.heap.get? (s.heap.objs.size+1)=some o:=by
  rcases w with w|w
  ·exact I.ft _ w
  ·exact fz I.sr w
 obtain⟨o,e⟩:=this;exact absurd (Heap.lt_size e) (Nat.not_lt.mpr (Nat.le_succ _))
theorem uo{b:V}{x:Value}(bg:Bg G)(hh:A.handled=none)(I:Inv G F A sc nm env ρ H σ s)(r:TRel G ρ (F.or (aj ρ H)) s.heap b x) :
  Wps G F al A ρ H s (call (fB .sorted) [x]) (RV G F) Z (bG .sorted b H):=by
 cases b with
 |dct kvs=>exact lE bg hh I r
 |lst xs=>exact lF I r
 |_=>exact trivial
end
end J.Internal
namespace J.Internal
noncomputable def ph:Nat->List Nat
 |0=>[99,104,101,99,107,95,114,111,111,109]
 |1=>[110,117,109,98,101,114,95,97,116]
 |2=>[117,51,50,95,97,116]
 |3=>[95,95,105,110,105,116,95,95]
 |4=>[110,101,101,100]
 |5=>[110,117,109,98,101,114]
 |6=>[117,49,54]
 |7=>[117,51,50]
 |8=>[116,97,103]
 |9=>[110,117,109,98,101,114,95,111,99,116,101,116,115]
 |10=>[95,95,105,110,105,116,95,95]
 |11=>[117,49,54]
 |12=>[117,51,50]
 |13=>[116,97,103]
 |14=>[114,111,119,115]
 |15=>[97,100,100]
 |16=>[111,99,116,101,116,115]
 |17=>[99,104,101,99,107,115,117,109]
 |18=>[95,95,105,110,105,116,95,95]
 |19=>[101,110,100]
 |20=>[100,105,114,101,99,116,111,114,121,95,115,105,122,101]
 |21=>[114,101,97,100,95,114,101,99,111,114,100]
 |22=>[110,101,101,100,95,105,110,95,111,114,100,101,114]
 |23=>[110,101,101,100,95,97,112,97,114,116]
 |24=>[114,101,97,100,95,114,101,99,111,114,100,115]
 |25=>[116,97,98,108,101,115,95,111,102]
 |26=>[114,101,97,100,95,100,105,114,101,99,116,111,114,121]
 |27=>[105,115,95,99,111,108,108,101,99,116,105,111,110]
 |28=>[114,101,97,100,95,99,111,108,108,101,99,116,105,111,110]
 |29=>[104,97,115,95,97,100,106,117,115,116,109,101,110,116]
 |30=>[117,110,97,100,106,117,115,116,101,100]
 |31=>[116,97,98,108,101,95,115,117,109]
 |32=>[115,101,97,114,99,104,95,110,117,109,98,101,114,115]
 |33=>[116,111,95,102,111,117,114,115]
 |34=>[110,101,101,100,95,116,97,98,108,101,115]
 |35=>[100,105,114,101,99,116,111,114,121,95,111,99,116,101,116,115]
 |36=>[119,114,105,116,101,95,115,102,110,116]
 |37=>[115,104,97,114,101,100,95,115,112,111,116,115]
 |38=>[119,114,105,116,101,95,99,111,108,108,101,99,116,105,111,110]
 |39=>[95,108,97,119,95,100,114,97,119]
 |40=>[95,108,97,119,95,102,111,110,116]
 |41=>[95,108,97,119,95,97,108,111,110,101]
 |42=>[95,108,97,119,95,116,111,103,101,116,104,101,114]
 |43=>[108,97,119]
 |_=>[]
noncomputable def zB:Nat->List Nat
 |0=>[86,69,82,83,73,79,78,83]
 |1=>[67,79,76,76,69,67,84,73,79,78]
 |2=>[72,69,65,68,69,82,95,83,73,90,69]
 |3=>[82,69,67,79,82,68,95,83,73,90,69]
 |4=>[65,68,74,85,83,84,77,69,78,84]
 |5=>[77,79,83,84,95,70,79,78,84,83]
 |6=>[77,79,83,84,95,84,65,66,76,69,83]
 |7=>[95,108,97,119,95,116,97,103,115]
 |_=>[]
noncomputable def uU:Nat->List Nat
 |0=>[100,97,116,97]
 |1=>[97,116]
 |2=>[109,97,100,101]
 |3=>[116,97,103]
 |4=>[116,111,116,97,108]
 |5=>[98,101,103,105,110]
 |6=>[108,101,110,103,116,104]
 |7=>[119,104,101,114,101]
 |_=>[]
noncomputable def CQ:Nat->List Nat
 |0=>[79,99,116,101,116,115,73,110]
 |1=>[79,99,116,101,116,115,79,117,116]
 |2=>[82,101,99,111,114,100]
 |_=>[]
noncomputable def nB:B1->List Nat
 |.len=>[108,101,110]
 |.abs=>[97,98,115]
 |.int=>[105,110,116]
 |.chr=>[99,104,114]
 |.ord=>[111,114,100]
 |.bytes=>[98,121,116,101,115]
 |.dict=>[100,105,99,116]
 |.sorted=>[115,111,114,116,101,100]
 |.min=>[109,105,110]
 |.max=>[109,97,120]
noncomputable def pi:List Nat:=[114,97,110,103,101]
noncomputable def Gi:List Nat:=[98,121,116,101,97,114,114,97,121]
noncomputable def EV:List Nat:=[70,111,110,116,70,97,117,108,116]
noncomputable def wF:List Nat:=[106,111,105,110]
noncomputable def EW:List Nat:=[97,112,112,101,110,100]
noncomputable def EY:List Nat:=[101,120,116,101,110,100]
noncomputable def EZ:List Nat:=[95,95,100,101,98,117,103,95,95]
noncomputable def E0:List Nat:=[95,95,99,108,97,115,115,100,105,99,116,95,95]
noncomputable def CS:List Nat:=[115,117,112,101,114]
structure Nb(G:Cx):Prop where
 b1:∀op,nsIn G.K mainGlobals (S' (nB op))=some none
 rng:nsIn G.K mainGlobals (S' pi)=some none
 ba:nsIn G.K mainGlobals (S' Gi)=some none
 cls:∀c,c<3->nsIn G.K mainGlobals (S' (CQ c))=some (some (.ref (G.ca c)))
 gv:∀k,k<8->∃v,nsIn G.K mainGlobals (S' (zB k))=some (some v)/\Rel G (λa=>G.B.get? a=none) G.B (prog.gv k) v
theorem nh:("__debug__" : Str)=S' EZ:=by decide +kernel
theorem CT:("__classdict__" : Str)=S' E0:=by decide +kernel
theorem zC:∀f,f<44->(S' (ph f)==("__debug__" : Str))=false:=by rw[nh];decide +kernel
theorem zD:∀f,f<8->(S' (zB f)==("__debug__" : Str))=false:=by rw[nh];decide +kernel
theorem zE:∀f,f<3->(S' (CQ f)==("__debug__" : Str))=false:=by rw[nh];decide +kernel
theorem qV(op:B1):(S' (nB op)==("__debug__" : Str))=false/\S' (nB op) ≠ "__name__" /\ bootBuiltins (S' (nB op))=some (fB op):=by
 cases op<;>exact⟨by decide +kernel,by decide +kernel,by decide +kernel⟩
theorem nj:(S' pi==("__debug__" : Str))=false/\S' pi ≠ "__name__" /\ bootBuiltins (S' pi)=some (.type "range"):=⟨by decide +kernel,by decide +kernel,by decide +kernel⟩
theorem zF(G:Cx)(op:B1):mE G (fB op):=by cases op<;>first|exact bZ _|exact iH _
variable{G:Cx}
variable{F M:Av}{A:Around}{ρ:List (Addr × Addr)}{H:Hp}{s:Shared}{h:Heap}{Z:Option (Option Addr)->Prop}
section
variable{sc:Scope}{nm:List Str}{env:Env}{σ:ai}{pos p:Pos}{x:Str}{n k i:Nat}
theorem E2(hn:nm[i]? = some x)(hk:sc.names.lookup x=some .local\/sc.names.lookup x=some .cell\/sc.names.lookup x=some .free)(hd:(x==("__debug__" : Str))=false)(hc:(x==("__classdict__" : Str))=false) :
  SE G F A sc nm env Z (λσ H=>optV (aV σ i) H) (eval (.Name x pos) env):=λ_ _ _ _ I=>Be I.sr I.ev hn hk hd hc
theorem E3(bg:Bg G)(hn:nm[i]? = some x)(hk:sc.names.lookup x=some .local\/sc.names.lookup x=some .cell\/sc.names.lookup x=some .free)(hd:(x==("__debug__" : Str))=false)(hc:(x==("__classdict__" : Str))=false) :
  SE G F A sc nm env Z (λσ H=>bo (aV σ i) λv=>eC v H) (eval (.Name x pos) env):=λρ H s σ I=>by
 have e:(bo (aV σ i) λv=>eC v H)=(optV (aV σ i) H).vb eC:=by cases aV σ i<;>rfl
 rw[<-bind_pure (eval (.Name x pos) env)];show Wps _ _ _ _ _ _ _ _ _ _ (bo (aV σ i) λv=>eC v H);exact e▸Wps.vb I.sr I.fr (Be (A:=A) (Z:=Z) (pos:=pos) I.sr I.ev hn hk hd hc) λa b ρ1 H1 s1 _ a1 r1=>Ch bg (I.aft a1) r1
theorem CU{v:V}{u:Value}(I:Inv G F A sc nm env ρ H σ s)(r:Rel G (λa=>G.B.get? a=none) G.B v u):Rel G (F.or (aj ρ H)) s.heap v u:=
 Rel.ext0 (M:=λ_=>False) G ⟨λb o e _=>I.sr.base b o e,λa w=>.inl (I.sr.above a w)⟩ (λ_ m=>m.elim) r
theorem HN(bg:Bg G)(gl:Gl G)(nb:Nb G)(hk:k<8)(hx:sc.names.lookup (S' (zB k))=some .globalImplicit) :
  SE G F A sc nm env Z (λ_ H=>.ok (prog.gv k) H) (eval (.Name (S' (zB k)) pos) env):=λρ H s σ I=>by
 obtain⟨v,h1,h2⟩:=nb.gv k hk;exact Wps.val I.sr (λQ E h=>jT bg gl I hx (zD k hk) h1 (by simpa using h)) (tk:=s.toks) (aF (CU I h2))
theorem bL{a:Expr}{f:ai->Hp->Out V}(hs:noStar a=true)(h:SE G F A sc nm env Z f (eval a env)):lx G F A sc nm env Z (λσ H=>(f σ H).vb λv H1=>.ok [v] H1) (spliced (backTo pos (starEach [a] env)))/\Pl (backTo pos (starEach [a] env)):=by
 cases a<;>first|exact⟨vB h vA,rfl⟩|exact(by cases (show false=true from hs))
theorem E4{f:Value}{K:V->Hp->Out V}{a:Expr}{g:ai->Hp->Out V}(bg:Bg G)(gl:Gl G)(hk:mE G f)
  (hx:sc.names.lookup x=some .globalImplicit) (hd:(x==("__debug__" : Str))=false) (hv:nsIn G.K mainGlobals x=some none) (hb:bootBuiltins x=some f) (hnn:x ≠ "__name__") (hs:noStar a=true)
  (ha:SE G F A sc nm env Z g (eval a env))
  (hc:∀{u v ρ1 H1 s1 σ},Inv G F A sc nm env ρ1 H1 σ s1->TRel G ρ1 (F.or (aj ρ1 H1)) s1.heap v u->Wps G F al A ρ1 H1 s1 (call f [u]) (RV G F) Z (K v H1)) :
  SE G F A sc nm env Z (λσ H=>(g σ H).vb K) (eval (.Call (.Name x p) [a] [] pos) env):=λρ H s σ I=>by
 rw[arm_eval_Call_Name'];exact Wps.via (λQ E q=>aa (ah (vE bg gl I hx hd hv hb hnn q))) (gP (bL hs ha).2 hk I ((bL hs ha).1 I) λu v ρ1 H1 s1 a1 I1 r1=>hc I1 r1)
theorem HO{op:B1}{a:Expr}{g:ai->Hp->Out V}(bg:Bg G)(gl:Gl G)(nb:Nb G)(hh:A.handled=none)(hx:sc.names.lookup (S' (nB op))=some .globalImplicit)(hs:noStar a=true)(ha:SE G F A sc nm env Z g (eval a env)) :
  SE G F A sc nm env Z (λσ H=>(g σ H).vb λx H1=>bG op x H1) (eval (.Call (.Name (S' (nB op)) p) [a] [] pos) env):=
 E4 bg gl (zF G op) hx (qV op).1 (nb.b1 op) (qV op).2.2 (qV op).2.1 hs ha λ{u v ρ1 H1 s1 σ} I r=>by
  cases op with
  |len=>exact Cj bg I.sr r
  |abs=>exact Ck I.sr r
  |int=>exact Cl I.sr r
  |chr=>exact Cm I.sr r
  |ord=>exact Cn I.sr r
  |bytes=>exact wm hh I.sr r
  |dict=>exact zv bg hh I r
  |sorted=>exact uo bg hh I r
  |min=>exact CK hh I.sr r
  |max=>exact CL hh I.sr r
theorem E5{es:List Expr}{g:ai->Hp->Out (List V)}(bg:Bg G)(gl:Gl G)(nb:Nb G)(rm:Rm n A)(hx:sc.names.lookup (S' pi)=some .globalImplicit)(hp:Pl (backTo pos (starEach es env)))
  (ha:lx G F A sc nm env Z g (spliced (backTo pos (starEach es env)))) :
  SE G F A sc nm env Z (λσ H=>(g σ H).vb λvs H1=>bW vs H1) (eval (.Call (.Name (S' pi) p) es [] pos) env):=
 wj bg gl (iH "range") hx nj.1 nb.rng nj.2.2 nj.2.1 hp ha λ{us vs ρ1 H1 s1 σ} I rt=>Cy bg rm I rt
theorem E6{c:Nat}{es:List Expr}{g:ai->Hp->Out (List V)}{C:Nat->List V->Hp->Out V}(bg:Bg G)(gl:Gl G)(nb:Nb G)(na:Na G prog)(hc:gu G n C)(rm:Rm (n+1) A)(h3:c<3)
  (hx:sc.names.lookup (S' (CQ c))=some .globalImplicit) (hp:Pl (backTo pos (starEach es env))) (ha:lx G F A sc nm env Z g (spliced (backTo pos (starEach es env)))) :
  SE G F A sc nm env Z (λσ H=>(g σ H).vb λvs H1=>eS prog C c vs H1) (eval (.Call (.Name (S' (CQ c)) p) es [] pos) env):=λρ H s σ I=>by
 rw[arm_eval_Call_Name'];refine Wps.via (λQ E q=>aa (ah (jT bg gl I hx (zE c h3) (nb.cls c h3) q))) ?_;exact c9 (first:=[]) hp (mG bg (na.ini c h3).2.2.2.2) I (ha I) λus vs ρ1 H1 s1 e1 a1 I1 r1=>Cq bg na hc rm h3 I1 r1
end
end J.Internal
namespace J.Internal
noncomputable def ju(x:Str)(l:List Nat):Bool:=decide (x.cps.toList=l)
theorem sv{x:Str}{l:List Nat}(h:ju x l=true):x=S' l:=by
 cases x;exact congrArg Str.mk (by rw[<-of_decide_eq_true h])
theorem ng{a:Bool}(h:(!a)=true):a=false:=by cases a<;>first|rfl|cases h
@[elab_as_elim] theorem dE{α:Type}{a b:α}{d:Decidable (a=b)}{P:α->Prop}(h:decide (a=b)=true)(k:P b):P a:=(of_decide_eq_true h).symm▸k
@[elab_as_elim] theorem sE{y:Str}{l:List Nat}{P:Str->Prop}(h:ju y l=true)(k:P (S' l)):P y:=(sv h).symm▸k
noncomputable def aR(x:Expr)(f:Str->Bool):Bool:=if h:x.ctorIdx=23 then Expr.Name.elim (motive_1:=λ_=>Bool) x h λy _=>f y else false
@[elab_as_elim] theorem bl{x:Expr}{f:Str->Bool}{P:Expr->Prop}(h:aR x f=true)(k:∀y p,f y=true->P (.Name y p)):P x:=
 (LY (x.ctorIdx=23)).elim (λq=>Expr.Name.elim (motive_1:=λx=>aR x f=true->P x) x q k h) λq=>ff ((dif_neg q:aR x f=false).symm.trans h)
noncomputable def dh(x:Expr)(f:Const->Bool):Bool:=if h:x.ctorIdx=19 then Expr.Constant.elim (motive_1:=λ_=>Bool) x h λc _ _=>f c else false
@[elab_as_elim] theorem fe{x:Expr}{f:Const->Bool}{P:Expr->Prop}(h:dh x f=true)(k:∀c q p,f c=true->P (.Constant c q p)):P x:=
 (LY (x.ctorIdx=19)).elim (λq=>Expr.Constant.elim (motive_1:=λx=>dh x f=true->P x) x q k h) λq=>ff ((dif_neg q:dh x f=false).symm.trans h)
noncomputable def zG(x:Expr)(f:Expr->Operator->Expr->Bool):Bool:=if h:x.ctorIdx=2 then Expr.BinOp.elim (motive_1:=λ_=>Bool) x h λl o r _=>f l o r else false
@[elab_as_elim] theorem HP{x:Expr}{f:Expr->Operator->Expr->Bool}{P:Expr->Prop}(h:zG x f=true)(k:∀l o r p,f l o r=true->P (.BinOp l o r p)):P x:=
 (LY (x.ctorIdx=2)).elim (λq=>Expr.BinOp.elim (motive_1:=λx=>zG x f=true->P x) x q k h) λq=>ff ((dif_neg q:zG x f=false).symm.trans h)
noncomputable def E7(x:Expr)(f:UnaryOp->Expr->Bool):Bool:=if h:x.ctorIdx=3 then Expr.UnaryOp.elim (motive_1:=λ_=>Bool) x h λo l _=>f o l else false
@[elab_as_elim] theorem Jw{x:Expr}{f:UnaryOp->Expr->Bool}{P:Expr->Prop}(h:E7 x f=true)(k:∀o l p,f o l=true->P (.UnaryOp o l p)):P x:=
 (LY (x.ctorIdx=3)).elim (λq=>Expr.UnaryOp.elim (motive_1:=λx=>E7 x f=true->P x) x q k h) λq=>ff ((dif_neg q:E7 x f=false).symm.trans h)
noncomputable def qW(x:Expr)(f:Expr->(List CmpOp)->(List Expr)->Bool):Bool:=if h:x.ctorIdx=15 then Expr.Compare.elim (motive_1:=λ_=>Bool) x h λl os rs _=>f l os rs else false
@[elab_as_elim] theorem zH{x:Expr}{f:Expr->(List CmpOp)->(List Expr)->Bool}{P:Expr->Prop}(h:qW x f=true)(k:∀l os rs p,f l os rs=true->P (.Compare l os rs p)):P x:=
 (LY (x.ctorIdx=15)).elim (λq=>Expr.Compare.elim (motive_1:=λx=>qW x f=true->P x) x q k h) λq=>ff ((dif_neg q:qW x f=false).symm.trans h)
noncomputable def i7(x:Expr)(f:BoolOp->(List Expr)->Bool):Bool:=if h:x.ctorIdx=0 then Expr.BoolOp.elim (motive_1:=λ_=>Bool) x h λo xs _=>f o xs else false
@[elab_as_elim] theorem pj{x:Expr}{f:BoolOp->(List Expr)->Bool}{P:Expr->Prop}(h:i7 x f=true)(k:∀o xs p,f o xs=true->P (.BoolOp o xs p)):P x:=
 (LY (x.ctorIdx=0)).elim (λq=>Expr.BoolOp.elim (motive_1:=λx=>i7 x f=true->P x) x q k h) λq=>ff ((dif_neg q:i7 x f=false).symm.trans h)
noncomputable def Gj(x:Expr)(f:Expr->Expr->Expr->Bool):Bool:=if h:x.ctorIdx=5 then Expr.IfExp.elim (motive_1:=λ_=>Bool) x h λa b c _=>f a b c else false
@[elab_as_elim] theorem KV{x:Expr}{f:Expr->Expr->Expr->Bool}{P:Expr->Prop}(h:Gj x f=true)(k:∀a b c p,f a b c=true->P (.IfExp a b c p)):P x:=
 (LY (x.ctorIdx=5)).elim (λq=>Expr.IfExp.elim (motive_1:=λx=>Gj x f=true->P x) x q k h) λq=>ff ((dif_neg q:Gj x f=false).symm.trans h)
noncomputable def kq(x:Expr)(f:(List Expr)->Bool):Bool:=if h:x.ctorIdx=25 then Expr.Tuple.elim (motive_1:=λ_=>Bool) x h λxs _ _=>f xs else false
@[elab_as_elim] theorem pk{x:Expr}{f:(List Expr)->Bool}{P:Expr->Prop}(h:kq x f=true)(k:∀xs q p,f xs=true->P (.Tuple xs q p)):P x:=
 (LY (x.ctorIdx=25)).elim (λq=>Expr.Tuple.elim (motive_1:=λx=>kq x f=true->P x) x q k h) λq=>ff ((dif_neg q:kq x f=false).symm.trans h)
noncomputable def zI(x:Expr)(f:(List Expr)->Bool):Bool:=if h:x.ctorIdx=24 then Expr.List.elim (motive_1:=λ_=>Bool) x h λxs _=>f xs else false
@[elab_as_elim] theorem HQ{x:Expr}{f:(List Expr)->Bool}{P:Expr->Prop}(h:zI x f=true)(k:∀xs p,f xs=true->P (.List xs p)):P x:=
 (LY (x.ctorIdx=24)).elim (λq=>Expr.List.elim (motive_1:=λx=>zI x f=true->P x) x q k h) λq=>ff ((dif_neg q:zI x f=false).symm.trans h)
noncomputable def zJ(x:Expr)(f:(List (Option Expr))->(List Expr)->Bool):Bool:=if h:x.ctorIdx=6 then Expr.Dict.elim (motive_1:=λ_=>Bool) x h λks xs _=>f ks xs else false
@[elab_as_elim] theorem HR{x:Expr}{f:(List (Option Expr))->(List Expr)->Bool}{P:Expr->Prop}(h:zJ x f=true)(k:∀ks xs p,f ks xs=true->P (.Dict ks xs p)):P x:=
 (LY (x.ctorIdx=6)).elim (λq=>Expr.Dict.elim (motive_1:=λx=>zJ x f=true->P x) x q k h) λq=>ff ((dif_neg q:zJ x f=false).symm.trans h)
noncomputable def qX(x:Expr)(f:Expr->Expr->Bool):Bool:=if h:x.ctorIdx=21 then Expr.Subscript.elim (motive_1:=λ_=>Bool) x h λl r _=>f l r else false
@[elab_as_elim] theorem zK{x:Expr}{f:Expr->Expr->Bool}{P:Expr->Prop}(h:qX x f=true)(k:∀l r p,f l r=true->P (.Subscript l r p)):P x:=
 (LY (x.ctorIdx=21)).elim (λq=>Expr.Subscript.elim (motive_1:=λx=>qX x f=true->P x) x q k h) λq=>ff ((dif_neg q:qX x f=false).symm.trans h)
noncomputable def DU(x:Expr)(f:(Option Expr)->(Option Expr)->(Option Expr)->Bool):Bool:=if h:x.ctorIdx=26 then Expr.Slice.elim (motive_1:=λ_=>Bool) x h λa b c _=>f a b c else false
@[elab_as_elim] theorem Jx{x:Expr}{f:(Option Expr)->(Option Expr)->(Option Expr)->Bool}{P:Expr->Prop}(h:DU x f=true)(k:∀a b c p,f a b c=true->P (.Slice a b c p)):P x:=
 (LY (x.ctorIdx=26)).elim (λq=>Expr.Slice.elim (motive_1:=λx=>DU x f=true->P x) x q k h) λq=>ff ((dif_neg q:DU x f=false).symm.trans h)
noncomputable def gf(x:Expr)(f:Expr->Str->Pos->Bool):Bool:=if h:x.ctorIdx=20 then Expr.Attribute.elim (motive_1:=λ_=>Bool) x h λl a p=>f l a p else false
@[elab_as_elim] theorem kt{x:Expr}{f:Expr->Str->Pos->Bool}{P:Expr->Prop}(h:gf x f=true)(k:∀l a p,f l a p=true->P (.Attribute l a p)):P x:=
 (LY (x.ctorIdx=20)).elim (λq=>Expr.Attribute.elim (motive_1:=λx=>gf x f=true->P x) x q k h) λq=>ff ((dif_neg q:gf x f=false).symm.trans h)
noncomputable def nl(x:Expr)(f:Expr->(List Expr)->(List Keyword)->Pos->Bool):Bool:=if h:x.ctorIdx=16 then Expr.Call.elim (motive_1:=λ_=>Bool) x h λg xs kw p=>f g xs kw p else false
@[elab_as_elim] theorem CV{x:Expr}{f:Expr->(List Expr)->(List Keyword)->Pos->Bool}{P:Expr->Prop}(h:nl x f=true)(k:∀g xs kw p,f g xs kw p=true->P (.Call g xs kw p)):P x:=
 (LY (x.ctorIdx=16)).elim (λq=>Expr.Call.elim (motive_1:=λx=>nl x f=true->P x) x q k h) λq=>ff ((dif_neg q:nl x f=false).symm.trans h)
noncomputable def ku(x:Expr)(f:Expr->(List Comprehension)->Scope->Bool):Bool:=if h:x.ctorIdx=8 then Expr.ListComp.elim (motive_1:=λ_=>Bool) x h λe gs sc _=>f e gs sc else false
@[elab_as_elim] theorem wG{x:Expr}{f:Expr->(List Comprehension)->Scope->Bool}{P:Expr->Prop}(h:ku x f=true)(k:∀e gs sc p,f e gs sc=true->P (.ListComp e gs sc p)):P x:=
 (LY (x.ctorIdx=8)).elim (λq=>Expr.ListComp.elim (motive_1:=λx=>ku x f=true->P x) x q k h) λq=>ff ((dif_neg q:ku x f=false).symm.trans h)
noncomputable def sx(x:Stmt)(f:(List Expr)->Expr->Bool):Bool:=if h:x.ctorIdx=5 then Stmt.Assign.elim (motive_2:=λ_=>Bool) x h λts v _=>f ts v else false
@[elab_as_elim] theorem E8{x:Stmt}{f:(List Expr)->Expr->Bool}{P:Stmt->Prop}(h:sx x f=true)(k:∀ts v p,f ts v=true->P (.Assign ts v p)):P x:=
 (LY (x.ctorIdx=5)).elim (λq=>Stmt.Assign.elim (motive_2:=λx=>sx x f=true->P x) x q k h) λq=>ff ((dif_neg q:sx x f=false).symm.trans h)
noncomputable def zL(x:Stmt)(f:Expr->Bool):Bool:=if h:x.ctorIdx=24 then Stmt.Expr.elim (motive_2:=λ_=>Bool) x h λv _=>f v else false
@[elab_as_elim] theorem HS{x:Stmt}{f:Expr->Bool}{P:Stmt->Prop}(h:zL x f=true)(k:∀v p,f v=true->P (.Expr v p)):P x:=
 (LY (x.ctorIdx=24)).elim (λq=>Stmt.Expr.elim (motive_2:=λx=>zL x f=true->P x) x q k h) λq=>ff ((dif_neg q:zL x f=false).symm.trans h)
noncomputable def uq(x:Stmt)(f:(Option Expr)->Bool):Bool:=if h:x.ctorIdx=3 then Stmt.Return.elim (motive_2:=λ_=>Bool) x h λv _=>f v else false
@[elab_as_elim] theorem CW{x:Stmt}{f:(Option Expr)->Bool}{P:Stmt->Prop}(h:uq x f=true)(k:∀v p,f v=true->P (.Return v p)):P x:=
 (LY (x.ctorIdx=3)).elim (λq=>Stmt.Return.elim (motive_2:=λx=>uq x f=true->P x) x q k h) λq=>ff ((dif_neg q:uq x f=false).symm.trans h)
noncomputable def zM(x:Stmt)(f:Expr->(List Stmt)->(List Stmt)->Bool):Bool:=if h:x.ctorIdx=12 then Stmt.If.elim (motive_2:=λ_=>Bool) x h λt a b _=>f t a b else false
@[elab_as_elim] theorem HT{x:Stmt}{f:Expr->(List Stmt)->(List Stmt)->Bool}{P:Stmt->Prop}(h:zM x f=true)(k:∀t a b p,f t a b=true->P (.If t a b p)):P x:=
 (LY (x.ctorIdx=12)).elim (λq=>Stmt.If.elim (motive_2:=λx=>zM x f=true->P x) x q k h) λq=>ff ((dif_neg q:zM x f=false).symm.trans h)
noncomputable def sy(x:Stmt)(f:Expr->Expr->(List Stmt)->(List Stmt)->Bool):Bool:=if h:x.ctorIdx=9 then Stmt.For.elim (motive_2:=λ_=>Bool) x h λt i a b _=>f t i a b else false
@[elab_as_elim] theorem E9{x:Stmt}{f:Expr->Expr->(List Stmt)->(List Stmt)->Bool}{P:Stmt->Prop}(h:sy x f=true)(k:∀t i a b p,f t i a b=true->P (.For t i a b p)):P x:=
 (LY (x.ctorIdx=9)).elim (λq=>Stmt.For.elim (motive_2:=λx=>sy x f=true->P x) x q k h) λq=>ff ((dif_neg q:sy x f=false).symm.trans h)
noncomputable def sz(x:Stmt)(f:Expr->(List Stmt)->(List Stmt)->Bool):Bool:=if h:x.ctorIdx=11 then Stmt.While.elim (motive_2:=λ_=>Bool) x h λt a b _=>f t a b else false
@[elab_as_elim] theorem Fa{x:Stmt}{f:Expr->(List Stmt)->(List Stmt)->Bool}{P:Stmt->Prop}(h:sz x f=true)(k:∀t a b p,f t a b=true->P (.While t a b p)):P x:=
 (LY (x.ctorIdx=11)).elim (λq=>Stmt.While.elim (motive_2:=λx=>sz x f=true->P x) x q k h) λq=>ff ((dif_neg q:sz x f=false).symm.trans h)
noncomputable def zN(x:Stmt)(f:(Option Expr)->(Option Expr)->Bool):Bool:=if h:x.ctorIdx=16 then Stmt.Raise.elim (motive_2:=λ_=>Bool) x h λe c _=>f e c else false
@[elab_as_elim] theorem HU{x:Stmt}{f:(Option Expr)->(Option Expr)->Bool}{P:Stmt->Prop}(h:zN x f=true)(k:∀e c p,f e c=true->P (.Raise e c p)):P x:=
 (LY (x.ctorIdx=16)).elim (λq=>Stmt.Raise.elim (motive_2:=λx=>zN x f=true->P x) x q k h) λq=>ff ((dif_neg q:zN x f=false).symm.trans h)
noncomputable def zO(x:Stmt)(f:(List Stmt)->(List ExceptHandler)->(List Stmt)->(List Stmt)->Bool):Bool:=if h:x.ctorIdx=17 then Stmt.Try.elim (motive_2:=λ_=>Bool) x h λa hs b c _=>f a hs b c else false
@[elab_as_elim] theorem HV{x:Stmt}{f:(List Stmt)->(List ExceptHandler)->(List Stmt)->(List Stmt)->Bool}{P:Stmt->Prop}(h:zO x f=true)(k:∀a hs b c p,f a hs b c=true->P (.Try a hs b c p)):P x:=
 (LY (x.ctorIdx=17)).elim (λq=>Stmt.Try.elim (motive_2:=λx=>zO x f=true->P x) x q k h) λq=>ff ((dif_neg q:zO x f=false).symm.trans h)
section
variable{α:Type}
noncomputable def h7(xs:List α):Bool:=xs.casesOn true λ_ _=>false
@[elab_as_elim] theorem ia{xs:List α}{P:List α->Prop}(h:h7 xs=true)(k:P []):P xs:=by
 cases xs<;>first|exact k|exact ff h
noncomputable def lY(xs:List α)(f:α->List α->Bool):Bool:=xs.casesOn false f
@[elab_as_elim] theorem lZ{xs:List α}{f:α->List α->Bool}{P:List α->Prop}(h:lY xs f=true)(k:∀x r,f x r=true->P (x::r)):P xs:=by
 cases xs<;>first|exact k _ _ h|exact ff h
noncomputable def eN(xs:List α)(f:α->Bool):Bool:=lY xs λx r=>h7 r&&f x
@[elab_as_elim] theorem eO{xs:List α}{f:α->Bool}{P:List α->Prop}(h:eN xs f=true)(k:∀x,f x=true->P [x]):P xs:=
 lZ h λx _ h=>eK h λh1 h=>ia (P:=λr=>P (x::r)) h1 (k x h)
noncomputable def gA(xs:List α)(f:α->α->Bool):Bool:=lY xs λx r=>eN r λy=>f x y
@[elab_as_elim] theorem ib{xs:List α}{f:α->α->Bool}{P:List α->Prop}(h:gA xs f=true)(k:∀x y,f x y=true->P [x,y]):P xs:=
 lZ h λx _ h=>eO (P:=λr=>P (x::r)) h (k x)
noncomputable def nq(xs:List α)(f:α->α->α->Bool):Bool:=lY xs λx r=>gA r λy z=>f x y z
@[elab_as_elim] theorem qY{xs:List α}{f:α->α->α->Bool}{P:List α->Prop}(h:nq xs f=true)(k:∀x y z,f x y z=true->P [x,y,z]):P xs:=
 lZ h λx _ h=>ib (P:=λr=>P (x::r)) h (k x)
noncomputable def gh(o:Option α)(f:α->Bool):Bool:=o.casesOn false f
@[elab_as_elim] theorem ie{o:Option α}{f:α->Bool}{P:Option α->Prop}(h:gh o f=true)(k:∀x,f x=true->P (some x)):P o:=by
 cases o<;>first|exact k _ h|exact ff h
noncomputable def l3(o:Option α):Bool:=o.casesOn true λ_=>false
@[elab_as_elim] theorem po{o:Option α}{P:Option α->Prop}(h:l3 o=true)(k:P none):P o:=by
 cases o<;>first|exact k|exact ff h
end
noncomputable def dz(x:Expr)(f:Expr->List Expr->Pos->Bool):Bool:=nl x λg xs kw p=>h7 kw&&f g xs p
@[elab_as_elim] theorem eF{x:Expr}{f:Expr->List Expr->Pos->Bool}{P:Expr->Prop}(h:dz x f=true)(k:∀g xs p,f g xs p=true->P (.Call g xs [] p)):P x:=
 CV h λg xs _ p h=>eK h λh1 h=>ia (P:=λkw=>P (.Call g xs kw p)) h1 (k g xs p h)
noncomputable def qZ(x:Stmt)(f:Expr->Expr->Bool):Bool:=sx x λts v=>eN ts λt=>f t v
@[elab_as_elim] theorem ur{x:Stmt}{f:Expr->Expr->Bool}{P:Stmt->Prop}(h:qZ x f=true)(k:∀t v p,f t v=true->P (.Assign [t] v p)):P x:=
 E8 h λ_ v p h=>eO (P:=λts=>P (.Assign ts v p)) h λt h=>k t v p h
noncomputable def wH(x:Expr)(f:Expr->Expr->Expr->List Expr->Scope->Bool):Bool:=ku x λe gs sc=>eN gs λg=>decide (g.is_async=0)&&f e g.target g.iter g.ifs sc
@[elab_as_elim] theorem sB{x:Expr}{f:Expr->Expr->Expr->List Expr->Scope->Bool}{P:Expr->Prop}(h:wH x f=true)(k:∀e t i c sc p,f e t i c sc=true->P (.ListComp e [⟨t,i,c,0⟩] sc p)):P x:=
 wG h λe _ sc p h=>eO (P:=λgs=>P (.ListComp e gs sc p)) h λg h=>eK h λh1 h=>match g,h1,h with
  |⟨t,i,c,_⟩,h1,h=>dE (P:=λa=>P (.ListComp e [⟨t,i,c,a⟩] sc p)) h1 (k e t i c sc p h)
noncomputable def kx(x:Expr):Bool:=!(dz x λg xs _=>h7 xs&&aR g λy=>ju y CS)
noncomputable def l7(sc:Scope)(x:Str)(k:NameKind):Bool:=decide (sc.names.lookup x=some k)
noncomputable def zP(sc:Scope)(x:Str):Bool:=l7 sc x .local||l7 sc x .cell
noncomputable def Bp(sc:Scope)(x:Str):Bool:=zP sc x||l7 sc x .free
theorem ky{sc:Scope}{x:Str}(h:zP sc x=true):sc.names.lookup x=some .local\/sc.names.lookup x=some .cell:=((Bool.or_eq_true _ _).mp h).imp of_decide_eq_true of_decide_eq_true
theorem ut{sc:Scope}{x:Str}(h:Bp sc x=true):sc.names.lookup x=some .local\/sc.names.lookup x=some .cell\/sc.names.lookup x=some .free:=
 ((Bool.or_eq_true _ _).mp h).elim (λh=>(ky h).imp id .inl) λh=>.inr (.inr (of_decide_eq_true h))
noncomputable def uu(nm:List Str)(i:Nat)(x:Str):Bool:=gh nm[i]? λy=>decide (y.cps.toList=x.cps.toList)
theorem fg{nm:List Str}{i:Nat}{x:Str}(h:uu nm i x=true):nm[i]? = some x:=
 ie (P:=λo=>o=some x) h λy h=>congrArg some (by
  cases x;cases y
  exact congrArg Str.mk (Array.toList_inj.mp (of_decide_eq_true h)))
noncomputable def HW(nm:List Str)(sc:Scope)(i:Nat)(x:Str):Bool:=uu nm i x&&Bp sc x&&!ju x EZ&&!ju x E0
noncomputable def jh(nm:List Str)(sc:Scope)(i:Nat)(x:Str):Bool:=uu nm i x&&zP sc x
noncomputable def Jy(nm:List Str)(sc:Scope)(t:Tg)(x:Expr):Bool:=match t with
 |.one i=>aR x λy=>jh nm sc i y
 |.two i j=>kq x λxs=>gA xs λa b=>aR a λy=>aR b λz=>jh nm sc i y&&jh nm sc j z
noncomputable def HX(nm:List Str)(sc:Scope)(t:Tg)(x:Expr):Bool:=match t with
 |.one i=>aR x λy=>uu nm i y&&l7 sc y .local
 |.two i j=>kq x λxs=>gA xs λa b=>aR a λy=>aR b λz=>uu nm i y&&l7 sc y .local&&uu nm j z&&l7 sc z .local
noncomputable def HY(t:Tg)(i:Nat):Bool:=t.idx.contains i
noncomputable def q0(nm:List Str)(sc:Scope)(t:Tg)(x:Expr)(scope:Scope):Bool:=
 decide (scope.kind = .function)
 && (scope.names.all λq=>!decide (q.2 = .cell))
 && (scope.names.all λq=>!decide (q.2 = .local)||l7 scope q.1 .local)
 && (scope.names.all λq=>!decide (q.2 = .free)||(l7 sc q.1 .cell||l7 sc q.1 .free))
 && (nm.zipIdx.all λq=>!l7 scope q.1 .local||HY t q.2)
 && HX nm scope t x
mutual
noncomputable def ax(nm:List Str)(sc:Scope):E->Expr->Bool
 |.var i,x=>aR x λy=>HW nm sc i y
 |.gv k,x=>aR x λy=>decide (k<8)&&ju y (zB k)&&l7 sc y .globalImplicit
 |.frz i,x=>aR x λy=>HW nm sc i y
 |.cnone,x=>dh x λc=>decide (c = .none)
 |.cbool b,x=>dh x λc=>decide (c = .bool b)
 |.cint i,x=>dh x λc=>decide (c = .int i)
 |.cstr l,x=>dh x λc=>decide (c = .str (S' l))&&decide (l.length<=aq)
 |.cbyt l,x=>dh x λc=>decide (c = .bytes l)&&decide (l.length<=aq)
 |.bin op a b,x=>zG x λl o r=>decide (o=Hv op)&&ax nm sc a l&&ax nm sc b r
 |.neg a,x=>E7 x λo l=>decide (o = .USub)&&ax nm sc a l
 |.not _,_=>false
 |.cmp op a b,x=>qW x λl os rs=>eN os λo=>eN rs λr=>decide (o=oy op)&&!behindInMarks o r&&ax nm sc a l&&ax nm sc b r
 |.cmp2 o1 o2 a b c,x=>qW x λl os rs=>gA os λp q=>gA rs λr t=>decide (p=oy o1)&&decide (q=oy o2)&&!behindInMarks q t&&ax nm sc a l&&ax nm sc b r&&ax nm sc c t
 |.and a b,x=>i7 x λo xs=>gA xs λl r=>decide (o = .And)&&ax nm sc a l&&ax nm sc b r
 |.or a b,x=>i7 x λo xs=>gA xs λl r=>decide (o = .Or)&&ax nm sc a l&&ax nm sc b r
 |.or3 _ _ _,_=>true
 |.ife t a b,x=>Gj x λu v w=>iP nm sc t u&&ax nm sc a v&&ax nm sc b w
 |.tup es,x=>kq x λxs=>eG nm sc es xs&&decide (xs.length<=1000)
 |.lst _ es,x=>zI x λxs=>eG nm sc es xs&&decide (xs.length<=1000)
 |.dct0,x=>zJ x λks xs=>h7 ks&&h7 xs
 |.sub a i,x=>qX x λl r=>ax nm sc a l&&ax nm sc i r
 |.sl a lo hi,x=>qX x λl s=>DU s λu v w=>l3 w&&ax nm sc a l&&(gh u λr=>ax nm sc lo r)&&(gh v λq=>ax nm sc hi q)
 |.slTo a hi,x=>qX x λl s=>DU s λu v w=>l3 u&&l3 w&&ax nm sc a l&&(gh v λq=>ax nm sc hi q)
 |.attr o k,x=>gf x λl a _=>decide (k<8)&&ju a (uU k)&&kx l&&ax nm sc o l
 |.call f es,x=>dz x λg xs _=>aR g λy=>decide (f<44)&&decide (bv f=99)&&ju y (ph f)&&l7 sc y .globalImplicit&&eG nm sc es xs
 |.meth f o es,x=>dz x λg xs pos=>gf g λl a ap=>(decide (f<44)&&decide (bv f<3)&&ju a (ph f))&&kx l&&(ap.endLine==pos.line)&&decide (xs.length<30)&&ax nm sc o l&&eG nm sc es xs
 |.new c es,x=>dz x λg xs _=>aR g λy=>decide (c<3)&&ju y (CQ c)&&l7 sc y .globalImplicit&&eG nm sc es xs
 |.b1 op a,x=>dz x λg xs _=>aR g λy=>eN xs λl=>ju y (nB op)&&l7 sc y .globalImplicit&&noStar l&&ax nm sc a l
 |.ba0,x=>dz x λg xs _=>aR g λy=>h7 xs&&ju y Gi&&l7 sc y .globalImplicit
 |.rng es,x=>dz x λg xs _=>aR g λy=>ju y pi&&l7 sc y .globalImplicit&&eG nm sc es xs
 |.joinS a,x=>dz x λg xs pos=>gf g λl m ap=>eN xs λr=>dh l λc=>decide (c = .str (S' []))&&ju m wF&&(ap.endLine==pos.line)&&noStar r&&ax nm sc a r
 |.joinB a,x=>dz x λg xs pos=>gf g λl m ap=>eN xs λr=>dh l λc=>decide (c = .bytes [])&&ju m wF&&(ap.endLine==pos.line)&&noStar r&&ax nm sc a r
 |.app o a,x=>dz x λg xs pos=>gf g λl m ap=>eN xs λr=>ju m EW&&kx l&&(ap.endLine==pos.line)&&noStar r&&ax nm sc o l&&ax nm sc a r
 |.ext o a,x=>dz x λg xs pos=>gf g λl m ap=>eN xs λr=>ju m EY&&kx l&&(ap.endLine==pos.line)&&noStar r&&ax nm sc o l&&ax nm sc a r
 |.comp _ elt t it,x=>wH x λe target iter c scope=>h7 c&&q0 nm sc t target scope&&j4 iter&&ax nm sc it iter&&ax nm scope elt e
 |.compIf _ elt t it d,x=>wH x λe target iter c scope=>(eN c λi=>iP nm scope d i)&&q0 nm sc t target scope&&j4 iter&&ax nm sc it iter&&ax nm scope elt e
 |.bad,_=>true
noncomputable def iP(nm:List Str)(sc:Scope):E->Expr->Bool
 |.not a,x=>E7 x λo l=>decide (o = .Not)&&iP nm sc a l
 |.and a b,x=>i7 x λo xs=>gA xs λl r=>decide (o = .And)&&iP nm sc a l&&iP nm sc b r
 |.or a b,x=>i7 x λo xs=>gA xs λl r=>decide (o = .Or)&&iP nm sc a l&&iP nm sc b r
 |.or3 a b c,x=>i7 x λo xs=>nq xs λl r q=>decide (o = .Or)&&iP nm sc a l&&iP nm sc b r&&iP nm sc c q
 |.cmp op a b,x=>qW x λl os rs=>eN os λo=>eN rs λr=>decide (o=oy op)&&!behindInMarks o r&&ax nm sc a l&&ax nm sc b r
 |.cmp2 o1 o2 a b c,x=>qW x λl os rs=>gA os λp q=>gA rs λr t=>decide (p=oy o1)&&decide (q=oy o2)&&!behindInMarks q t&&ax nm sc a l&&ax nm sc b r&&ax nm sc c t
 |.call f es,x=>dz x λg xs _=>aR g λy=>decide (f<44)&&decide (bv f=99)&&ju y (ph f)&&l7 sc y .globalImplicit&&eG nm sc es xs
 |_,_=>true
noncomputable def eG(nm:List Str)(sc:Scope):Es->List Expr->Bool
 |.nil,xs=>h7 xs
 |.cons e es,xs=>lY xs λx r=>noStar x&&ax nm sc e x&&eG nm sc es r
end
noncomputable def KW(sc:Scope)(h:ExceptHandler):Bool:=match h with
 |.ExceptHandler t n b _=>l3 n&&(gh t λt=>aR t λy=>ju y EV&&l7 sc y .globalImplicit)&&(eN b λs=>uq s λo=>gh o λv=>dh v λc=>decide (c = .none))
noncomputable def CX(x:Expr):Bool:=ku x λ_ _ _=>true
noncomputable def HZ(x:Expr):Bool:=!(DU x λ_ _ _=>true)
noncomputable def Bq(s:S):Bool:=match s with
 |.bad=>true
 |_=>false
noncomputable def Fb(s:S)(f:E->Bool):Bool:=match s with
 |.ret e=>f e
 |_=>false
noncomputable def H5(b:Ss)(f:E->Bool):Bool:=Ss.casesOn (motive_2:=λ_=>Bool) b false λs r=>Ss.casesOn (motive_2:=λ_=>Bool) r (Fb s f) λ_ _=>false
@[elab_as_elim] theorem Jz{b:Ss}{f:E->Bool}{P:Ss->Prop}(h:H5 b f=true)(k:∀e,f e=true->P (.cons (.ret e) .nil)):P b:=by
 cases b with
 |nil=>exact ff h
 |cons s r=>
  cases r with
  |cons=>exact ff h
  |nil=>cases s<;>first|exact k _ h|exact ff h
noncomputable def Fc(e:E):Bool:=match e with
 |.cnone=>true
 |_=>false
@[elab_as_elim] theorem KX{e:E}{P:E->Prop}(h:Fc e=true)(k:P .cnone):P e:=by cases e<;>first|exact k|exact ff h
mutual
noncomputable def Fe(nm:List Str)(sc:Scope):S->Stmt->Bool
 |.asg i e,x=>qZ x λt v=>aR t λy=>jh nm sc i y&&(CX v||cH v)&&ax nm sc e v
 |.asg2 i j e,x=>qZ x λt v=>kq t λts=>gA ts λa b=>aR a λy=>aR b λz=>jh nm sc i y&&jh nm sc j z&&cH v&&v5 v&&ax nm sc e v
 |.asgD2 i j a b,x=>qZ x λt v=>kq t λts=>gA ts λu w=>aR u λy=>aR w λz=>kq v λvs=>gA vs λl r=>
   (jh nm sc i y&&jh nm sc j z&&(i != j))&&noStar l&&noStar r&&((v6 l&&v6 r)||(v7 l||v7 r))&&ax nm sc a l&&ax nm sc b r
 |.asgD3 i j k a b c,x=>qZ x λt v=>kq t λts=>nq ts λu1 u2 u3=>aR u1 λy=>aR u2 λz=>aR u3 λw=>kq v λvs=>nq vs λl r q=>
   (jh nm sc i y&&jh nm sc j z&&jh nm sc k w)&&((i != j)&&(i != k)&&(j != k))&&(noStar l&&noStar r&&noStar q)&&((v6 l&&v6 r&&v6 q)||(v7 l||v7 r||v7 q))&&(ax nm sc a l&&ax nm sc b r&&ax nm sc c q)
 |.asgA o k e,x=>qZ x λt v=>gf t λl a _=>decide (k<8)&&ju a (uU k)&&cH v&&ax nm sc o l&&ax nm sc e v
 |.asgS o i e,x=>qZ x λt v=>qX t λl r=>HZ r&&cH v&&ax nm sc o l&&ax nm sc i r&&ax nm sc e v
 |.xpr e,x=>zL x λv=>cH v&&ax nm sc e v
 |.ret e,x=>uq x λo=>gh o λv=>ax nm sc e v
 |.ite t a b,x=>zM x λu xs ys=>iP nm sc t u&&i8 nm sc a xs&&i8 nm sc b ys
 |.for t it body,x=>sy x λtarget iter xs ys=>h7 ys&&Jy nm sc t target&&j4 iter&&ax nm sc it iter&&i8 nm sc body xs
 |.whl t body,x=>sz x λu xs ys=>h7 ys&&iP nm sc t u&&i8 nm sc body xs
 |.rse e,x=>zN x λo c=>l3 c&&(gh o λu=>dz u λg xs _=>aR g λy=>eN xs λl=>ju y EV&&l7 sc y .globalImplicit&&noStar l&&ax nm sc e l)
 |.tryx body hb,x=>H5 body λe=>H5 hb λd=>Fc d&&zO x λxs hs b c=>h7 b&&h7 c&&(eN xs λs=>uq s λo=>gh o λv=>ax nm sc e v)&&(eN hs λh=>KW sc h)
 |.bad,_=>true
noncomputable def i8(nm:List Str)(sc:Scope):Ss->List Stmt->Bool
 |.nil,xs=>h7 xs
 |.cons s ss,xs=>Bq s||lY xs λx r=>Fe nm sc s x&&i8 nm sc ss r
end
end J.Internal
namespace J.Internal
structure SimH(G:Cx)(n:Nat)(C:Nat->List V->Hp->Out V)(A:Around)(nm:List Str)(Z:Option (Option Addr)->Prop):Prop where
 bg:Bg G
 gl:Gl G
 na:Na G prog
 nb:Nb G
 hc:gu G n C
 rm:Rm (n+1) A
 hZ:Z (some none)
 hn:nm.Nodup
 hgn:∀f,G.gn f=S' (ph f)
 han:∀k,G.an k=uU k
theorem SimH.hh{G:Cx}{n:Nat}{C:Nat->List V->Hp->Out V}{A:Around}{nm:List Str}{Z:Option (Option Addr)->Prop}(h:SimH G n C A nm Z):A.handled=none:=h.rm.hd
variable{G:Cx}
variable{F F':Av}{A:Around}{ρ:List (Addr × Addr)}{H H':Hp}{s:Shared}{h:Heap}{Z:Option (Option Addr)->Prop}
section
variable{sc:Scope}{nm:List Str}{env:Env}{σ:ai}{pos p:Pos}{x:Str}{n k i:Nat}{C:Nat->List V->Hp->Out V}
theorem CY:("super" : Str)=S' CS:=by decide +kernel
theorem q7{l:List Nat}(h:(!ju x l)=true):x≠S' l:=λw=>by
 subst w;exact ff ((ng h).symm.trans (decide_eq_true (rfl:(S' l).cps.toList=l)))
theorem jv{o:Expr}(h:kx o=true):∀id p q,o≠.Call (.Name id p) [] [] q\/(id != "super")=true:=λid p q=>
 (Classical.em (o=Expr.Call (.Name id p) [] [] q)).elim (λe=>.inr (by
  subst e;rw[CY,bne_iff_ne]
  exact q7 (show(!ju id CS)=true from h))) .inl
theorem Br{P:Prop}(h:HW nm sc i x=true)(k:nm[i]? = some x->(sc.names.lookup x=some .local\/sc.names.lookup x=some .cell\/sc.names.lookup x=some .free)->(x==("__debug__" : Str))=false->(x==("__classdict__" : Str))=false->P):P:=
 tJ h λh1 h2 h3 h4=>k (fg h1) (ut h2) (by rw[nh];exact beq_eq_false_iff_ne.mpr (q7 h3)) (by rw[CT];exact beq_eq_false_iff_ne.mpr (q7 h4))
theorem bm(h:jh nm sc i x=true):t9 sc nm i x:=eK h λh1 h2=>⟨fg h1,ky h2⟩
theorem q8{a b:Bool}(h:(!a||b)=true)(e:a=true):b=true:=by rw[e]at h;exact h
theorem ee{t:Tg}{target:Expr}{scope:Scope}(h:q0 nm sc t target scope=true):DT sc nm t target scope:=
 BQ h λh1 h2 h3 h4 h5 h6=>⟨of_decide_eq_true h1,λq hq e=>ff ((ng (L9.mp h2 q hq)).symm.trans (decide_eq_true e)),
  λq hq e=>of_decide_eq_true (q8 (L9.mp h3 q hq) (decide_eq_true e)),
  λq hq e=>((Bool.or_eq_true _ _).mp (q8 (L9.mp h4 q hq) (decide_eq_true e))).imp of_decide_eq_true of_decide_eq_true,
  λi y hi hl=>List.contains_iff_mem.mp (q8 (L9.mp h5 (y,i) (List.mem_zipIdx_iff_getElem?.mpr hi)) (decide_eq_true hl)),
  match t,h6 with
  |.one i,h=>bl h λy p h=>eK h λh1 h2=>⟨y,p,rfl,fg h1,of_decide_eq_true h2⟩
  |.two i j,h=>pk h λxs q p h=>ib h λa b h=>bl h λy p1 h=>bl h λz p2 h=>tJ h λh1 h2 h3 h4=>⟨y,p1,z,p2,q,p,rfl,⟨fg h1,of_decide_eq_true h2⟩,fg h3,of_decide_eq_true h4⟩⟩
theorem Bs{c:Expr}{f:ai->Hp->Out Bool}(h:ST G F A sc nm env Z f (isTrue c env (eval c env))):ST G F A sc nm env Z f (j8 [c] env):=λρ H s σ I=>by
 have e:j8 [c] env=isTrue c env (eval c env):=by
  unfold j8;simp
 rw[e];exact h I
theorem wJ{F:Av}:ST G F A sc nm env Z (λ_ H=>.ok true H) (j8 [] env):=λρ H s σ I=>Wps.val (tk:=s.toks) I.sr (λQ E h=>wpAny_pure h) rfl
theorem ig{P:jc}{C:Nat->List V->Hp->Out V}:∀(es:Es)(xs:List Expr){σ:ai}{H H':Hp}{vs:List V},eG nm sc es xs=true->eJ P C es σ H = .ok vs H'->vs.length=xs.length
 |.nil,xs,σ,H,H',vs,hc,h=>ia hc (by cases h;rfl)
 |.cons e es,xs,σ,H,H',vs,hc,h=>lZ hc λx r hc=>gF hc λ_ _ hc=>by
  have h:((ev P C e σ H).vb λv H1=>(eJ P C es σ H1).vb λvs H2=>.ok (v::vs) H2) = .ok vs H':=h
  cases e1:ev P C e σ H with
  |ok v H1=>
   rw[e1]at h;have h:((eJ P C es σ H1).vb λvs H2=>.ok (v::vs) H2) = .ok vs H':=h
   cases e2:eJ P C es σ H1 with
   |ok ws H2=>
    rw[e2]at h;cases h;exact congrArg (· + 1) (ig es r hc e2)
   |_=>rw[e2]at h;cases h
  |_=>rw[e1]at h;cases h
theorem uv{a:Expr}{r:List Expr}(hs:noStar a=true):starEach (a::r) env=(false,eval a env)::starEach r env:=by
 cases a<;>first|rfl|exact(by cases (show false=true from hs))
theorem sD:S' wF=("join" : Str):=by decide +kernel
theorem CZ:S' EW=("append" : Str):=by decide +kernel
theorem C0:S' EY=("extend" : Str):=by decide +kernel
theorem wK:S' Gi=("bytearray" : Str):=by decide +kernel
theorem sG(S:SimH G n C A nm Z){f:Nat}{es:List Expr}{g:ai->Hp->Out (List V)}{F:Av}(h1:decide (f<44)=true)(h2:decide (bv f=99)=true)(h3:ju x (ph f)=true)(h4:l7 sc x .globalImplicit=true)(hp:Pl (backTo pos (starEach es env)))(ha:lx G F A sc nm env Z g (spliced (backTo pos (starEach es env)))) :
  SE G F A sc nm env Z (λσ H=>(g σ H).vb λvs H1=>C f vs H1) (eval (.Call (.Name x p) es [] pos) env):=by
 have e:=(sv h3).trans (S.hgn f).symm;subst e;exact Co S.bg S.gl S.na S.hc S.rm.down S.hZ (of_decide_eq_true h1) (of_decide_eq_true h2) (of_decide_eq_true h4) (by rw[S.hgn f];exact zC f (of_decide_eq_true h1)) hp ha
theorem Bt{F:Av}{t:Sem Value}:SE G F A sc nm env Z (λ_ _=>.bad) t:=λρ H s σ I=>trivial
theorem aP{F:Av}{t:Sem Bool}:ST G F A sc nm env Z (λ_ _=>.bad) t:=λρ H s σ I=>trivial
mutual
theorem aB(S:SimH G n C A nm Z):∀(e:E){sc:Scope}{x:Expr},ax nm sc e x=true->∀{F:Av}{env:Env},SE G F A sc nm env Z (ev prog C e) (eval x env)
 |.var i,sc,x,h,F,env=>bl h λy p h=>Br h E2
 |.gv k,sc,x,h,F,env=>bl h λy p h=>gF h λh1 h2 h3=>sE h2 (λh3=>HN S.bg S.gl S.nb (of_decide_eq_true h1) (of_decide_eq_true h3)) h3
 |.frz i,sc,x,h,F,env=>bl h λy p h=>Br h (E3 S.bg)
 |.cnone,sc,x,h,F,env=>fe h λc q p h=>dE h λρ H s σ I=>yH I.sr
 |.cbool b,sc,x,h,F,env=>fe h λc q p h=>dE h λρ H s σ I=>yI I.sr
 |.cint i,sc,x,h,F,env=>fe h λc q p h=>dE h λρ H s σ I=>BW I.sr
 |.cstr l,sc,x,h,F,env=>fe h λc q p h=>eK h λh h2=>dE h λρ H s σ I=>ve I.sr (of_decide_eq_true h2)
 |.cbyt l,sc,x,h,F,env=>fe h λc q p h=>eK h λh h2=>dE h λρ H s σ I=>vf I.sr (of_decide_eq_true h2)
 |.bin op a b,sc,x,h,F,env=>HP h λl o r p h=>gF h λh1 h2 h3=>dE h1 (Em S.bg.bf S.rm (aB S a h2) (aB S b h3))
 |.neg a,sc,x,h,F,env=>Jw h λo l p h=>eK h λh1 h=>dE h1 (En (aB S a h))
 |.not a,sc,x,h,F,env=>ff h
 |.cmp op a b,sc,x,h,F,env=>zH h λl os rs p h=>eO h λo h=>eO h λr h=>tJ h λh1 h2 h3 h4=>dE h1 (λh2=>Eo S.rm (ng h2) (aB S a h3) (aB S b h4)) h2
 |.cmp2 o1 o2 a b c,sc,x,h,F,env=>zH h λl os rs p h=>ib h λo q h=>ib h λr t h=>BQ h λh1 h2 h3 h4 h5 h6=>dE h1 (dE h2 (λh3=>B4 S.rm (ng h3) (aB S a h4) (aB S b h5) (aB S c h6)) h3)
 |.and a b,sc,x,h,F,env=>pj h λo xs p h=>ib h λl r h=>gF h λh1 h2 h3=>dE h1 (Ew (aB S a h2) (aB S b h3))
 |.or a b,sc,x,h,F,env=>pj h λo xs p h=>ib h λl r h=>gF h λh1 h2 h3=>dE h1 (HG (aB S a h2) (aB S b h3))
 |.or3 a b c,sc,x,h,F,env=>Bt
 |.ife t a b,sc,x,h,F,env=>KV h λu v w p h=>gF h λh1 h2 h3=>Ex (iQ S t h1) (aB S a h2) (aB S b h3)
 |.tup es,sc,x,h,F,env=>pk h λxs q p h=>eK h λh1 h2=>Ez (ctx:=q) (cP S es h1).1 (of_decide_eq_true h2) λσ H vs H' e=>(ig es _ h1 e).symm▸of_decide_eq_true h2
 |.lst own es,sc,x,h,F,env=>HQ h λxs p h=>eK h λh1 h2=>EA (cP S es h1).1 λσ H vs H' e=>(ig es _ h1 e).symm▸of_decide_eq_true h2
 |.dct0,sc,x,h,F,env=>HR h λks xs p h=>eK h λh1 h2=>ia h1 (ia h2 Cb)
 |.sub a i,sc,x,h,F,env=>zK h λl r p h=>eK h λh1 h2=>Ey (aB S a h1) (aB S i h2)
 |.sl a lo hi,sc,x,h,F,env=>zK h λl t p h=>Jx h λu v w q h=>tJ h λh1 h2 h3 h4=>po h1 (ie h3 λr h3=>ie h4 λt h4=>HI (q:=q) (aB S a h2) (aB S lo h3) (aB S hi h4))
 |.slTo a hi,sc,x,h,F,env=>zK h λl t p h=>Jx h λu v w q h=>tJ h λh1 h2 h3 h4=>po h1 (po h2 (ie h4 λt h4=>B9 (q:=q) (aB S a h3) (aB S hi h4)))
 |.attr o k,sc,x,h,F,env=>kt h λl a p h=>tJ h λh1 h2 h3 h4=>sE h2 (S.han k▸Cc S.bg (jv h3) (aB S o h4))
 |.call f es,sc,x,h,F,env=>eF h λg xs p h=>bl h λy q h=>rP h λh1 h2 h3 h4 h5=>sG S h1 h2 h3 h4 (cP S es h5 (F:=F)).2 (cP S es h5).1
 |.meth f o es,sc,x,h,F,env=>eF h λg xs p h=>kt h λl a q h=>BQ h λh1 h2 h3 h4 h5 h6=>gF h1 λg1 g2 g3=>sE g3 (S.hgn f▸
   Cp S.bg S.na S.hc S.rm.down S.hZ (of_decide_eq_true g1) (of_decide_eq_true g2) (jv h2) h3 (of_decide_eq_true h4) (cP S es h6 (F:=F)).2 (aB S o h5) (cP S es h6).1)
 |.new c es,sc,x,h,F,env=>eF h λg xs p h=>bl h λy q h=>tJ h λh1 h2 h3 h4=>sE h2 (λh3=>E6 S.bg S.gl S.nb S.na S.hc S.rm (of_decide_eq_true h1) (of_decide_eq_true h3) (cP S es h4 (F:=F)).2 (cP S es h4).1) h3
 |.b1 op a,sc,x,h,F,env=>eF h λg xs p h=>bl h λy q h=>eO h λl h=>tJ h λh1 h2 h3 h4=>sE h1 (λh2=>HO S.bg S.gl S.nb S.hh (of_decide_eq_true h2) h3 (aB S a h4)) h2
 |.ba0,sc,x,h,F,env=>eF h λg xs p h=>bl h λy q h=>gF h λh1 h2 h3=>ia h1 (sE h2 (λh3=>wK▸EP S.bg S.gl S.rm (wK▸of_decide_eq_true h3) (wK▸S.nb.ba)) h3)
 |.rng es,sc,x,h,F,env=>eF h λg xs p h=>bl h λy q h=>gF h λh1 h2 h3=>sE h1 (λh2=>E5 S.bg S.gl S.nb S.rm (of_decide_eq_true h2) (cP S es h3 (F:=F)).2 (cP S es h3).1) h2
 |.joinS a,sc,x,h,F,env=>eF h λg xs p h=>kt h λl m q h=>eO h λr h=>fe h λc k t h=>rP h λh1 h2 h3 h4 h5=>dE h1 (sE h2 (sD▸zt h3 (bL h4 (aB S a h5 (F:=F))).2 (bL h4 (aB S a h5)).1))
 |.joinB a,sc,x,h,F,env=>eF h λg xs p h=>kt h λl m q h=>eO h λr h=>fe h λc k t h=>rP h λh1 h2 h3 h4 h5=>dE h1 (sE h2 (sD▸zr h3 (bL h4 (aB S a h5 (F:=F))).2 (bL h4 (aB S a h5)).1))
 |.app o a,sc,x,h,F,env=>eF h λg xs p h=>kt h λl m q h=>eO h λr h=>BQ h λh1 h2 h3 h4 h5 h6=>sE h1 (CZ▸ED (jv h2) h3 (bL h4 (aB S a h6 (F:=F))).2 (aB S o h5) (bL h4 (aB S a h6)).1)
 |.ext o a,sc,x,h,F,env=>eF h λg xs p h=>kt h λl m q h=>eO h λr h=>BQ h λh1 h2 h3 h4 h5 h6=>sE h1 (C0▸EO S.rm (jv h2) h3 (bL h4 (aB S a h6 (F:=F))).2 (aB S o h5) (bL h4 (aB S a h6)).1)
 |.comp own elt t it,sc,x,h,F,env=>sB h λe target iter c scope p h=>rP h λh1 h2 h3 h4 h5=>ia h1 (qB (c:=λ_ H=>.ok true H) S.hh (ee h2) S.hn h3 (aB S it h4) (λF' C=>wJ) λF' C=>aB S elt h5)
 |.compIf own elt t it d,sc,x,h,F,env=>sB h λe target iter c scope p h=>rP h λh1 h2 h3 h4 h5=>eO h1 λi h1=>qB S.hh (ee h2) S.hn h3 (aB S it h4) (λF' C=>Bs (iQ S d h1)) λF' C=>aB S elt h5
 |.bad,sc,x,h,F,env=>Bt
theorem iQ(S:SimH G n C A nm Z):∀(e:E){sc:Scope}{x:Expr},iP nm sc e x=true->∀{F:Av}{env:Env},ST G F A sc nm env Z (ck prog C e) (isTrue x env (eval x env))
 |.not a,sc,x,h,F,env=>Jw h λo l p h=>eK h λh1 h=>dE h1 (Er (iQ S a h))
 |.and a b,sc,x,h,F,env=>pj h λo xs p h=>ib h λl r h=>gF h λh1 h2 h3=>dE h1 (Et (iQ S a h2) (iQ S b h3))
 |.or a b,sc,x,h,F,env=>pj h λo xs p h=>ib h λl r h=>gF h λh1 h2 h3=>dE h1 (HF (iQ S a h2) (iQ S b h3))
 |.or3 a b c,sc,x,h,F,env=>pj h λo xs p h=>qY h λl r q h=>tJ h λh1 h2 h3 h4=>dE h1 (Ev (iQ S a h2) (iQ S b h3) (iQ S c h4))
 |.cmp op a b,sc,x,h,F,env=>zH h λl os rs p h=>eO h λo h=>eO h λr h=>tJ h λh1 h2 h3 h4=>dE h1 (λh2=>Ep S.rm (ng h2) (aB S a h3) (aB S b h4)) h2
 |.cmp2 o1 o2 a b c,sc,x,h,F,env=>zH h λl os rs p h=>ib h λo q h=>ib h λr t h=>BQ h λh1 h2 h3 h4 h5 h6=>dE h1 (dE h2 (λh3=>B5 S.rm (ng h3) (aB S a h4) (aB S b h5) (aB S c h6)) h3)
 |.call f es,sc,x,h,F,env=>eF h λg xs p h=>bl h λy q h=>rP h λh1 h2 h3 h4 h5=>B6 rfl (sG S h1 h2 h3 h4 (cP S es h5 (F:=F)).2 (cP S es h5).1)
 |.var _,_,_,_,_,_=>aP
 |.gv _,_,_,_,_,_=>aP
 |.frz _,_,_,_,_,_=>aP
 |.cnone,_,_,_,_,_=>aP
 |.cbool _,_,_,_,_,_=>aP
 |.cint _,_,_,_,_,_=>aP
 |.cstr _,_,_,_,_,_=>aP
 |.cbyt _,_,_,_,_,_=>aP
 |.bin _ _ _,_,_,_,_,_=>aP
 |.neg _,_,_,_,_,_=>aP
 |.ife _ _ _,_,_,_,_,_=>aP
 |.tup _,_,_,_,_,_=>aP
 |.lst _ _,_,_,_,_,_=>aP
 |.dct0,_,_,_,_,_=>aP
 |.sub _ _,_,_,_,_,_=>aP
 |.sl _ _ _,_,_,_,_,_=>aP
 |.slTo _ _,_,_,_,_,_=>aP
 |.attr _ _,_,_,_,_,_=>aP
 |.meth _ _ _,_,_,_,_,_=>aP
 |.new _ _,_,_,_,_,_=>aP
 |.b1 _ _,_,_,_,_,_=>aP
 |.ba0,_,_,_,_,_=>aP
 |.rng _,_,_,_,_,_=>aP
 |.joinS _,_,_,_,_,_=>aP
 |.joinB _,_,_,_,_,_=>aP
 |.app _ _,_,_,_,_,_=>aP
 |.ext _ _,_,_,_,_,_=>aP
 |.comp _ _ _ _,_,_,_,_,_=>aP
 |.compIf _ _ _ _ _,_,_,_,_,_=>aP
 |.bad,_,_,_,_,_=>aP
theorem cP(S:SimH G n C A nm Z):∀(es:Es){sc:Scope}{xs:List Expr},eG nm sc es xs=true->∀{F:Av}{env:Env}{pos:Pos},lx G F A sc nm env Z (eJ prog C es) (spliced (backTo pos (starEach xs env)))/\Pl (backTo pos (starEach xs env))
 |.nil,sc,xs,h,F,env,pos=>ia h ⟨vA,rfl⟩
 |.cons e es,sc,xs,h,F,env,pos=>lZ h λx r h=>gF h λh1 h2 h3=>uv h1▸⟨vB (aB S e h2) (cP S es h3).1,(cP S es h3 (F:=F)).2⟩
end
end
end J.Internal
namespace J.Internal
variable{G:Cx}
variable{F F':Av}{A:Around}{ρ:List (Addr × Addr)}{H H':Hp}{s:Shared}{h:Heap}
section
variable{sc:Scope}{nm:List Str}{env:Env}{σ:ai}{pos p q r cp:Pos}{x y z:Str}{n k i j:Nat}{C:Nat->List V->Hp->Out V}{outer:List Env}{X:XD}
theorem zQ{t:Tg}{x:Expr}(h:Jy nm sc t x=true):vZ sc nm t x:=match t,h with
 |.one i,h=>bl h λy p h=>⟨y,p,rfl,bm h⟩
 |.two i j,h=>pk h λxs q p h=>ib h λa b h=>bl h λy p1 h=>bl h λz p2 h=>eK h λh1 h2=>⟨y,p1,z,p2,q,p,rfl,bm h1,bm h2⟩
theorem Ff{P:jc}{a b:E}:ex P C (.asgD2 i j a b) σ H=(eJ P C (.cons a (.cons b .nil)) σ H).vb λvs H1=>.ok (.next,d9 σ [(i,x),(j,y)] vs) H1:=by
 show((ev P C a σ H).vb λx H1=>(ev P C b σ H1).vb λy H2=>(.ok (.next,ao (ao σ i x) j y) H2:Out (Fl × ai)))=((ev P C a σ H).vb λv H1=>((ev P C b σ H1).vb λw H2=>.ok [w] H2).vb λvs H2=>.ok (v::vs) H2).vb _
 cases ev P C a σ H with
 |ok v H1=>
  show((ev P C b σ H1).vb λy H2=>(.ok (.next,ao (ao σ i v) j y) H2:Out (Fl × ai)))=(((ev P C b σ H1).vb λw H2=>.ok [w] H2).vb λvs H2=>.ok (v::vs) H2).vb _;cases ev P C b σ H1<;>rfl
 |_=>rfl
theorem Fg{P:jc}{a b c:E}{l:Nat}:ex P C (.asgD3 i j l a b c) σ H=(eJ P C (.cons a (.cons b (.cons c .nil))) σ H).vb λvs H1=>.ok (.next,d9 σ [(i,x),(j,y),(l,z)] vs) H1:=by
 show((ev P C a σ H).vb λx H1=>(ev P C b σ H1).vb λy H2=>(ev P C c σ H2).vb λz H3=>(.ok (.next,ao (ao (ao σ i x) j y) l z) H3:Out (Fl × ai)))=((ev P C a σ H).vb λv H1=>((ev P C b σ H1).vb λw H2=>((ev P C c σ H2).vb λt H3=>.ok [t] H3).vb λvs H3=>.ok (w::vs) H3).vb λvs H2=>.ok (v::vs) H2).vb _
 cases ev P C a σ H with
 |ok v H1=>
  show((ev P C b σ H1).vb λy H2=>(ev P C c σ H2).vb λz H3=>(.ok (.next,ao (ao (ao σ i v) j y) l z) H3:Out (Fl × ai)))=(((ev P C b σ H1).vb λw H2=>((ev P C c σ H2).vb λt H3=>.ok [t] H3).vb λvs H3=>.ok (w::vs) H3).vb λvs H2=>.ok (v::vs) H2).vb _
  cases ev P C b σ H1 with
  |ok w H2=>
   show((ev P C c σ H2).vb λz H3=>(.ok (.next,ao (ao (ao σ i v) j w) l z) H3:Out (Fl × ai)))=((((ev P C c σ H2).vb λt H3=>.ok [t] H3).vb λvs H3=>.ok (w::vs) H3).vb λvs H2=>.ok (v::vs) H2).vb _;cases ev P C c σ H2<;>rfl
  |_=>rfl
 |_=>rfl
theorem C3{P:jc}{e:E}:ex P C (.tryx (.cons (.ret e) .nil) (.cons (.ret .cnone) .nil)) σ H=(match (ev P C e σ H).sb λv H1=>.ok (Fl.ret v,σ) H1 with
   |.ok r H1=>.ok r H1
   |.exc H1=>.ok (Fl.ret .none,σ) H1
   |.bad=>.bad):=by
 have e1:bA P C (.cons (.ret e) .nil) σ H=((ev P C e σ H).sb λv H1=>.ok (Fl.ret v,σ) H1).sb λr H1=>match r.1 with
  |.next=>.ok (.next,r.2) H1
  |.ret v=>.ok (.ret v,r.2) H1:=rfl
 show(match bA P C (.cons (.ret e) .nil) σ H with
  |.ok r H1=>Out.ok r H1
  |.exc H1=>bA P C (.cons (.ret .cnone) .nil) σ H1
  |.bad=>Out.bad)=_
 rw[e1];cases ev P C e σ H<;>rfl
theorem zR:∀{vs:List V},vs.length=2->∃a b,vs=[a,b]
 |[a,b],_=>⟨a,b,rfl⟩
theorem uw:∀{vs:List V},vs.length=3->∃a b c,vs=[a,b,c]
 |[a,b,c],_=>⟨a,b,c,rfl⟩
theorem C4{v:Expr}{P:Expr->Prop}(h:CX v=true)(k:∀e gs sc p,P (.ListComp e gs sc p)):P v:=wG h λe gs sc p _=>k e gs sc p
theorem sH:S' EV=("FontFault" : Str):=by decide +kernel
theorem zS{s:S}{ss:Ss}{t:Sem Flow}{F:Av}{Z:Option (Option Addr)->Prop}(h:Bq s=true):SS G F A sc nm env Z (bA prog C (.cons s ss)) t:=by
 cases s<;>first|exact ff h|exact λρ H s σ I=>trivial
theorem C5(W:SimH G n C A nm (Zl env)){F:Av}{v:Expr}(hN:t9 sc nm i x)(hv:CX v=true)(e:E)(h:ax nm sc e v=true) :
  SS G F A sc nm env (Zl env) (ex prog C (.asg i e)) (exec (.Assign [.Name x p] v pos) env):=C4 (P:=λv=>ax nm sc e v=true->SS G F A sc nm env (Zl env) (ex prog C (.asg i e)) (exec (.Assign [.Name x p] v pos) env)) hv (λe' gs sc' q h=>by
 cases e with
 |comp own elt t it=>exact sB h λe target iter c scope p h=>rP h λh1 h2 h3 h4 h5=>ia h1 (wi (c:=λ_ H=>.ok true H) W.hh hN (ee h2) W.hn h3 (aB W it h4) (λF' C=>wJ) λF' C=>aB W elt h5)
 |compIf own elt t it d=>exact sB h λe target iter c scope p h=>rP h λh1 h2 h3 h4 h5=>eO h1 λi h1=>wi W.hh hN (ee h2) W.hn h3 (aB W it h4) (λF' C=>Bs (iQ W d h1)) λF' C=>aB W elt h5
 |_=>first|exact ff h|exact λρ H s σ I=>trivial) h
mutual
theorem H6(W:SimH G n C A nm (Zl env))(fr:Fr A env outer)(hi:interactive env=false)(xk:Xk G X):∀(s:S){x:Stmt},Fe nm sc s x=true->∀{F:Av},SS G F A sc nm env (Zl env) (ex prog C s) (exec x env)
 |.asg i e,x,h,F=>ur h λt v p h=>bl h λy q h=>gF h λh1 h2 h3=>((Bool.or_eq_true _ _).mp h2).elim (λhv=>C5 W (bm h1) hv e h3) λhv=>EL (bm h1) W.hn hv (aB W e h3)
 |.asg2 i j e,x,h,F=>ur h λt v p h=>pk h λts k tp h=>ib h λa b h=>bl h λy q h=>bl h λz r h=>rP h λh1 h2 h3 h4 h5=>Cu W.hh (bm h1) (bm h2) W.hn h3 h4 (aB W e h5)
 |.asgD2 i j a b,x,h,F=>ur h λt v pos h=>pk h λts tk tp h=>ib h λu w h=>bl h λy p h=>bl h λz q h=>pk h λvs vk vp h=>ib h λl r h=>BQ h λh1 h2 h3 h4 h5 h6=>gF h1 λg1 g2 g3=>by
  have n1:=bm g1;have n2:=bm g2;have g3:=bne_iff_ne.mp g3;have hxy:y≠z:=λw=>g3 (mL W.hn (by rw[<-w]at n2;exact n1.1) (by rw[w];exact n2.1))
  have hc:eG nm sc (.cons a (.cons b .nil)) [l,r]=true:=by
   show(noStar l&&ax nm sc a l&&(noStar r&&ax nm sc b r&&true))=true;rw[h2,h3,h5,h6];rfl
  have q:=wc (G:=G) (F:=F) (A:=A) (sc:=sc) (nm:=nm) (env:=env) (l:=[(i,y),(j,z)]) (tk:=tk) (tp:=tp) (vk:=vk) (vp:=vp) (pos:=pos) (elts:=[.Name y p,.Name z q]) W.hh W.hn (λn hn=>by
   rcases LI.mp hn with rfl|hn
   ·exact n1
   ·rcases LI.mp hn with rfl|hn
    ·exact n2
    ·cases hn) (by simp) ⟨_,_,rfl,dg,_,_,rfl,dg,rfl⟩ rfl (v9 hxy ⟨h2,h3⟩ (by simpa using h4)) (λσ vs hv=>by
    obtain⟨u,w,rfl⟩:=zR hv
    exact(fI σ u w g3).symm) (cP W _ hc).1 λσ H vs H' e=>ig _ _ hc e
  intro ρ H s σ I;rw[Ff (x:=y) (y:=z)];exact q I
 |.asgD3 i j k a b c,x,h,F=>ur h λt v pos h=>pk h λts tk tp h=>qY h λu1 u2 u3 h=>bl h λy p h=>bl h λz q h=>bl h λw r h=>pk h λvs vk vp h=>qY h λl m o h=>rP h λh1 h2 h3 h4 h5=>gF h1 λg1 g2 g3=>gF h2 λi1 i2 i3=>gF h3 λj1 j2 j3=>gF h5 λk1 k2 k3=>by
  have n1:=bm g1;have n2:=bm g2;have n3:=bm g3
  have hc:eG nm sc (.cons a (.cons b (.cons c .nil))) [l,m,o]=true:=by
   show(noStar l&&ax nm sc a l&&(noStar m&&ax nm sc b m&&(noStar o&&ax nm sc c o&&true)))=true;rw[j1,j2,j3,k1,k2,k3];rfl
  have q:=wc (G:=G) (F:=F) (A:=A) (sc:=sc) (nm:=nm) (env:=env) (l:=[(i,y),(j,z),(k,w)]) (tk:=tk) (tp:=tp) (vk:=vk) (vp:=vp) (pos:=pos) (elts:=[.Name y p,.Name z q,.Name w r]) W.hh W.hn (λn hn=>by
   rcases LI.mp hn with rfl|hn
   ·exact n1
   ·rcases LI.mp hn with rfl|hn
    ·exact n2
    ·rcases LI.mp hn with rfl|hn
     ·exact n3
     ·cases hn) (by simp) ⟨_,_,rfl,dg,_,_,rfl,dg,_,_,rfl,dg,rfl⟩ rfl (wa (by simpa using h4)) (λσ vs hv=>by
    obtain⟨u,v,t,rfl⟩:=uw hv;show ao (ao (ao σ k t) j v) i u=ao (ao (ao σ i u) j v) k t
    rw[fI (ao σ k t) v u (Ne.symm (bne_iff_ne.mp i1)),fI σ t u (Ne.symm (bne_iff_ne.mp i2)),fI (ao σ i u) t v (Ne.symm (bne_iff_ne.mp i3))]) (cP W _ hc).1 λσ H vs H' e=>ig _ _ hc e
  intro ρ H s σ I;rw[Fg (x:=y) (y:=z) (z:=w)];exact q I
 |.asgA o k e,x,h,F=>ur h λt v p h=>kt h λl a q h=>rP h λh1 h2 h3 h4 h5=>sE h2 (W.han k▸Cs W.bg h3 (aB W e h5) (aB W o h4))
 |.asgS o i e,x,h,F=>ur h λt v p h=>zK h λl r q h=>rP h λh1 h2 h3 h4 h5=>Ct h2 (λlo hi st p w=>by subst w;exact ff h1) (aB W e h5) (aB W o h3) (aB W i h4)
 |.xpr e,x,h,F=>HS h λv p h=>eK h λh1 h2=>EM hi h1 (aB W e h2)
 |.ret e,x,h,F=>CW h λo p h=>ie h λv h=>EK (aB W e h)
 |.ite t a b,x,h,F=>HT h λu xs ys p h=>gF h λh1 h2 h3=>EJ (iQ W t h1) (l8 W fr hi xk a h2) (l8 W fr hi xk b h3)
 |.for t it body,x,h,F=>E9 h λtg iter xs ys p h=>rP h λh1 h2 h3 h4 h5=>ia h1 (EH fr (zQ h2) W.hn h3 (aB W it h4) λF'=>l8 W fr hi xk body h5)
 |.whl t body,x,h,F=>Fa h λu xs ys p h=>gF h λh1 h2 h3=>ia h1 (EI fr (iQ W t h2) (l8 W fr hi xk body h3))
 |.rse e,x,h,F=>HU h λo c p h=>eK h λh1 h=>po h1 (ie h λu h=>eF h λg xs cp h=>bl h λy q h=>eO h λl h=>tJ h λh1 h2 h3 h4=>
   sE h1 (λh2=>sH▸ES xk W.gl W.bg W.rm (sH▸of_decide_eq_true h2) (bL h3 (aB W e h4 (F:=F))).2 (bL h3 (aB W e h4)).1) h2)
 |.tryx body hb,x,h,F=>Jz h λe h=>Jz h λd h=>eK h λh0 h=>KX h0 (HV h λxs hs b c p h=>tJ h λh1 h2 h3 h4=>ia h1 (ia h2 (eO h3 λs h3=>CW h3 λo q h3=>ie h3 λv h3=>eO h4 λhd h4=>match hd,h4 with
   |.ExceptHandler t m bd hp,h4=>gF h4 λg1 g2 g3=>po g1 (ie g2 λt g2=>bl g2 λy r g2=>eK g2 λi1 i2=>eO g3 λs g3=>CW g3 λo q g3=>ie g3 λv g3=>fe g3 λc k cp g3=>dE g3 (sE i1 (λi2=>λρ H s σ I=>by
    rw[C3,sH]
    exact CJ xk W.gl W.bg fr (sH▸of_decide_eq_true i2) (aB W e h3) I) i2)))))
 |.bad,x,h,F=>λρ H s σ I=>trivial
theorem l8(W:SimH G n C A nm (Zl env))(fr:Fr A env outer)(hi:interactive env=false)(xk:Xk G X):∀(ss:Ss){xs:List Stmt},i8 nm sc ss xs=true->∀{F:Av},SS G F A sc nm env (Zl env) (bA prog C ss) (execs xs env)
 |.nil,xs,h,F=>ia h Cr
 |.cons s ss,xs,h,F=>((Bool.or_eq_true _ _).mp h).elim (λhb=>zS hb) λh=>lZ h λx r h=>eK h λh1 h2=>za (H6 W fr hi xk s h1) (l8 W fr hi xk ss h2)
end
end
end J.Internal
namespace J.Internal
noncomputable def q9(f:Nat):Nat:=(bH f).arity
structure zT(G:Cx)(X:XD):Prop where
 bg:Bg G
 gl:Gl G
 na:Na G prog
 nb:Nb G
 xk:Xk G X
 fo:Fo G q9
 hgn:∀f,G.gn f=S' (ph f)
 han:∀k,G.an k=uU k
 chk:∀f,f<44->i8 (G.fd f).nm (G.fd f).scope (bH f).body (G.fd f).body=true
variable{G:Cx}{X:XD}
theorem sJ{n:Nat}{C:Nat->List V->Hp->Out V}(b:zT G X)(hc:gu G n C):vT G prog bH (n+1) C:=by
 intro f F A L outer hf hfr rm;have W:SimH G n C A (G.fd f).nm (Zl (aO (G.fd f) L)):=⟨b.bg,b.gl,b.na,b.nb,hc,rm,.inr (.inl rfl),(b.fo.nm f hf).1,b.hgn,b.han⟩;refine l8 (outer:=outer) W ⟨rm.hd,hfr,rfl⟩ ?_ b.xk _ (b.chk f hf);unfold interactive;have hk:=(b.fo.flag f hf).2.2;show((G.fd f).scope.kind==.module&&_)=false;rw[hk]
 rfl
theorem pt(b:zT G X):∀k,gu G (2*k) (run prog bH k)
 |0=>λf vs us F A ρ H s _ _ _ _ _ _=>trivial
 |k+1=>by
  have hB:=sJ b (pt b k);intro f vs us F A ρ H s hf rm sr hF hS rt;exact lQ b.bg b.fo (λf _=>rfl) hB hf (by have:=rm.dp;omega) (λL=>Rm.deeper b.fo hf rm) sr hF hS rt
end J.Internal
namespace J.Internal
theorem KY:bH 0=⟨3,3,false,b0⟩:=rfl
theorem KZ:bH 1=⟨3,5,false,b1⟩:=rfl
theorem K0:bH 2=⟨2,2,false,b2⟩:=rfl
theorem K1:bH 3=⟨3,3,false,b3⟩:=rfl
theorem K2:bH 4=⟨2,2,false,b4⟩:=rfl
theorem K3:bH 5=⟨2,3,false,b5⟩:=rfl
theorem K4:bH 6=⟨1,1,false,b6⟩:=rfl
theorem K5:bH 7=⟨1,1,false,b7⟩:=rfl
theorem K6:bH 8=⟨1,3,false,b8⟩:=rfl
theorem H7:bH 10=⟨1,1,true,G2⟩:=rfl
theorem H8:bH 18=⟨6,6,false,G3⟩:=rfl
theorem Ia:bH 21=⟨2,6,false,G4⟩:=rfl
theorem Ib:bH 35=⟨2,4,false,G7⟩:=rfl
noncomputable def R(n f:Nat)(vs:List V)(H:Hp):Out V:=run prog bH n f vs H
def Wf(H:Hp):Prop:=a8 H.length H=true
theorem bB(H T:Hp)(i:Nat):ak (H++T) (H.length+i)=ak T i:=by
 induction H with
 |nil=>simp
 |cons a r ih=>
  rw[List.cons_append,List.length_cons,show r.length+1+i=(r.length+i)+1 by omega];exact ih
theorem aS(H T:Hp):ak (H++T) H.length=ak T 0:=bB H T 0
theorem bC(H T:Hp)(i:Nat)(o:O):au (H++T) (H.length+i) o=H++au T i o:=by
 induction H with
 |nil=>simp
 |cons a r ih=>
  rw[List.cons_append,List.length_cons,show r.length+1+i=(r.length+i)+1 by omega];exact congrArg (a::·) ih
theorem bj(H T:Hp)(o:O):au (H++T) H.length o=H++au T 0 o:=bC H T 0 o
theorem cB:∀(H:Hp)(i:Nat)(o:O),(au H i o).length=H.length
 |[],_,_=>rfl
 |_::_,0,_=>rfl
 |_::r,i+1,o=>congrArg (· + 1) (cB r i o)
theorem wM(H T:Hp):(H++T).take H.length=H:=by simp
theorem aT{a b:Bool}(h:a=true)(k:b=true):(a&&b)=true:=LD.mpr ⟨h,k⟩
theorem wN{v:V}{f g:Nat->Bool}(h:∀i,f i=true->g i=true):v.onO f true=true->v.onO g true=true:=
by
 cases v with
 |obj i=>exact h i
 |_=>exact λ_=>rfl
theorem wO{o:O}{f g:Nat->List (Nat × V)->Bool}(h:∀i l,f i l=true->g i l=true):o.onI f true=true->o.onI g true=true:=
by
 cases o with
 |ins i l=>exact h i l
 |_=>exact λ_=>rfl
theorem rc{m n:Nat}(h:m<=n){fs:List (Nat × V)}:iY m fs=true->iY n fs=true:=by
 induction fs with
 |nil=>exact λ_=>rfl
 |cons p r ih=>exact λw=>aT (wN (λj w=>decide_eq_true (L7 (of_decide_eq_true w) h)) (LD.mp w).1) (ih (LD.mp w).2)
theorem rg{m n:Nat}(h:m<=n){H:Hp}:a8 m H=true->a8 n H=true:=by
 induction H with
 |nil=>exact λ_=>rfl
 |cons o r ih=>exact λw=>aT (wO (λ_ _=>rc h) (LD.mp w).1) (ih (LD.mp w).2)
theorem ux{n:Nat}{H T:Hp}:a8 n (H++T)=(a8 n H&&a8 n T):=by
 induction H with
 |nil=>rfl
 |cons o r ih=>exact(congrArg (_&&·) ih).trans (Bool.and_assoc _ _ _).symm
theorem Wf.app{H T:Hp}(h:Wf H)(t:a8 (H.length+T.length) T=true):Wf (H++T):=by
 show a8 (H++T).length (H++T)=true;rw[ux,LC];exact aT (rg (L6 _ _) h) t
theorem uy{n:Nat}{H:Hp}{o:O}(w:a8 n [o]=true):∀{i:Nat},a8 n H=true->a8 n (au H i o)=true:=by
 induction H with
 |nil=>exact λ_=>rfl
 |cons x r ih=>exact λ{i}=>match i with
  |0=>λh=>aT (LD.mp w).1 (LD.mp h).2
  |i+1=>λh=>aT (LD.mp h).1 (ih (LD.mp h).2)
theorem C6(n f:Nat)(vs:List V)(H:Hp):R (n+1) f vs H=guard (decide (vs.length=(bH f).arity)) (dH (bH f).keep H.length (bA prog (R n) (bH f).body (vs.map some++dW ((bH f).slots - (bH f).arity)) H)):=rfl
theorem rh{n f:Nat}{vs:List V}{H H1 T:Hp}{r:Fl × ai}(ha:vs.length=(bH f).arity)(hk:(bH f).keep=false)
  (hx:bA prog (R n) (bH f).body (vs.map some++dW ((bH f).slots - (bH f).arity)) H = .ok r (H1++T)) (hl:H1.length=H.length) (hp:r.1.plain=true) (hw:Wf H1) :
  R (n+1) f vs H = .ok r.1.val H1:=by
 rw[C6,hx,ha,hk];unfold Wf at hw;rw[hl]at hw;have e:(H1++T).take H.length=H1:=by rw[<-hl];simp
 simp[dH,rT,rU,hp,e,hw]
theorem bz{n f:Nat}{vs:List V}{H H1:Hp}{r:Fl × ai}(ha:vs.length=(bH f).arity)(hk:(bH f).keep=false)
  (hx:bA prog (R n) (bH f).body (vs.map some++dW ((bH f).slots - (bH f).arity)) H = .ok r H1) (hl:H1.length=H.length) (hp:r.1.plain=true) (hw:Wf H1) :
  R (n+1) f vs H = .ok r.1.val H1:=rh (T:=[]) ha hk (by rw[LW];exact hx) hl hp hw
theorem sK{n f:Nat}{vs:List V}{H T:Hp}(ha:vs.length=(bH f).arity)(hk:(bH f).keep=false)
  (hx:bA prog (R n) (bH f).body (vs.map some++dW ((bH f).slots - (bH f).arity)) H = .exc (H++T)) (hw:Wf H) :
  R (n+1) f vs H = .exc H:=by
 rw[C6,hx,ha,hk];unfold Wf at hw;simp[dH,rT,rU,hw]
noncomputable def sL(C:Nat->List V->Hp->Out V)(ss:Ss)(x:Out (Fl × ai)):Out (Fl × ai):=x.sb λr H1=>match r.1 with
 |.next=>bA prog C ss r.2 H1
 |.ret v=>.ok (.ret v,r.2) H1
noncomputable def wP(C:Nat->List V->Hp->Out V)(a b:Ss)(σ:ai)(x:Out Bool):Out (Fl × ai):=x.vb λr H1=>match r with
 |true=>bA prog C a σ H1
 |false=>bA prog C b σ H1
noncomputable def lp(C:Nat->List V->Hp->Out V)(t:Tg)(body:Ss)(v:V)(σ:ai)(H:Hp):Out (Fl × ai):=match bN t v σ with
 |some σ'=>bA prog C body σ' H
 |none=>.bad
noncomputable def wQ(C:Nat->List V->Hp->Out V)(t:Tg)(body:Ss)(σ:ai)(x:Out V):Out (Fl × ai):=x.vb λv H1=>match elems v with
 |some xs=>bU (lp C t body) xs σ H1
 |none=>.bad
noncomputable def cp(C:Nat->List V->Hp->Out V)(elt:E)(t:Tg)(σ:ai)(v:V)(H:Hp):Out (Option V):=match bN t v σ with
 |some σ'=>(ev prog C elt σ' H).vb λr H'=>.ok (some r) H'
 |none=>.bad
noncomputable def Bu(C:Nat->List V->Hp->Out V)(elt:E)(t:Tg)(c:E)(σ:ai)(v:V)(H:Hp):Out (Option V):=match bN t v σ with
 |some σ'=>(ck prog C c σ' H).vb λb H'=>match b with
  |true=>(ev prog C elt σ' H').vb λr H''=>.ok (some r) H''
  |false=>.ok none H'
 |none=>.bad
noncomputable def kz(own:Bool)(f:V->Hp->Out (Option V))(x:Out V):Out V:=x.vb λv H1=>match elems v with
 |some xs=>(aE f xs H1).vb λvs H2=>mk own vs H2
 |none=>.bad
section
variable{α β:Type}{d:α}
@[simp] theorem sM{f:Int->α}{x}:(V.int x).onI f d=f x:=rfl
@[simp] theorem Fh{f:Bool->α}{x}:(V.bool x).onB f d=f x:=rfl
@[simp] theorem Gm{f:List Nat->α}{x}:(V.str x).onS f d=f x:=rfl
@[simp] theorem Gn{f:List UInt8->α}{x}:(V.byt x).onY f d=f x:=rfl
@[simp] theorem Go{f:List V->α}{x}:(V.tup x).onT f d=f x:=rfl
@[simp] theorem Gp{f:List V->α}{x}:(V.lst x).onL f d=f x:=rfl
@[simp] theorem Gq{f:List (List Nat × V)->α}{x}:(V.dct x).onD f d=f x:=rfl
@[simp] theorem Gr{f:Nat->α}{x}:(V.obj x).onO f d=f x:=rfl
@[simp] theorem C7{f:β->α}{x}:DS [x] f d=f x:=rfl
@[simp] theorem Ic{f:β->β->α}{x y}:pS [x,y] f d=f x y:=rfl
@[simp] theorem DV{f:β->Out α}{x}:bo (some x) f=f x:=rfl
end
section
variable{C:Nat->List V->Hp->Out V}{σ:ai}{H:Hp}
@[simp] theorem nr:bA prog C .nil σ H = .ok (.next,σ) H:=rfl
@[simp] theorem di{s:S}{ss:Ss}:bA prog C (.cons s ss) σ H=sL C ss (ex prog C s σ H):=rfl
@[simp] theorem dj{ss:Ss}:sL C ss (.ok (.next,σ) H)=bA prog C ss σ H:=rfl
@[simp] theorem sO{ss:Ss}{v:V}:sL C ss (.ok (.ret v,σ) H) = .ok (.ret v,σ) H:=rfl
@[simp] theorem Gs{ss:Ss}:sL C ss (.exc H) = .exc H:=rfl
@[simp] theorem nt{i:Nat}{e:E}:ex prog C (.asg i e) σ H=(ev prog C e σ H).vb λv H1=>.ok (.next,ao σ i v) H1:=rfl
@[simp] theorem Gu{i j:Nat}{e:E}:ex prog C (.asg2 i j e) σ H=(ev prog C e σ H).vb λv H1=>v.onT (λxs=>pS xs (λa b=>.ok (.next,ao (ao σ i a) j b) H1) .bad) .bad:=rfl
@[simp] theorem Fi{i j:Nat}{a b:E}:ex prog C (.asgD2 i j a b) σ H=(ev prog C a σ H).vb λx H1=>(ev prog C b σ H1).vb λy H2=>.ok (.next,ao (ao σ i x) j y) H2:=rfl
@[simp] theorem Fj{i j k:Nat}{a b c:E}:ex prog C (.asgD3 i j k a b c) σ H=(ev prog C a σ H).vb λx H1=>(ev prog C b σ H1).vb λy H2=>(ev prog C c σ H2).vb λz H3=>.ok (.next,ao (ao (ao σ i x) j y) k z) H3:=rfl
@[simp] theorem Gv{o:E}{k:Nat}{e:E}:ex prog C (.asgA o k e) σ H=(ev prog C e σ H).vb λv H1=>(ev prog C o σ H1).vb λx H2=>(jH x k v H2).vb λ_ H3=>.ok (.next,σ) H3:=rfl
@[simp] theorem zU{o i e:E}:ex prog C (.asgS o i e) σ H=(ev prog C e σ H).vb λv H1=>(ev prog C o σ H1).vb λx H2=>(ev prog C i σ H2).vb λy H3=>(dU x y v H3).vb λ_ H4=>.ok (.next,σ) H4:=rfl
@[simp] theorem nu{e:E}:ex prog C (.xpr e) σ H=(ev prog C e σ H).sb λ_ H1=>.ok (.next,σ) H1:=rfl
@[simp] theorem wS{e:E}:ex prog C (.ret e) σ H=(ev prog C e σ H).sb λv H1=>.ok (.ret v,σ) H1:=rfl
@[simp] theorem Id{t:E}{a b:Ss}:ex prog C (.ite t a b) σ H=wP C a b σ (ck prog C t σ H):=rfl
@[simp] theorem Ie{a b:Ss}:wP C a b σ (.ok true H)=bA prog C a σ H:=rfl
@[simp] theorem Ig{a b:Ss}:wP C a b σ (.ok false H)=bA prog C b σ H:=rfl
@[simp] theorem wU{t:Tg}{it:E}{body:Ss}:ex prog C (.for t it body) σ H=wQ C t body σ (ev prog C it σ H):=rfl
theorem ii{t:Tg}{body:Ss}{v:V}{xs:List V}(h:elems v=some xs):wQ C t body σ (.ok v H)=bU (lp C t body) xs σ H:=by unfold wQ;simp only[Out.vb,h]
@[simp] theorem Ih{t:E}{body:Ss}:ex prog C (.whl t body) σ H=n8 (ck prog C t) (bA prog C body) 64 σ H:=rfl
@[simp] theorem Ii{e:E}:ex prog C (.rse e) σ H=(ev prog C e σ H).vb λv H1=>v.onS (λ_=>.exc H1) .bad:=rfl
@[simp] theorem sP{a b:Ss}:ex prog C (.tryx a b) σ H=match bA prog C a σ H with
  |.ok r H1=>.ok r H1
  |.exc H1=>bA prog C b σ H1
  |.bad=>.bad:=rfl
@[simp] theorem fh{i:Nat}:ev prog C (.var i) σ H=optV (aV σ i) H:=rfl
@[simp] theorem JA{i:Nat}:ev prog C (.gv i) σ H = .ok (Bc i) H:=rfl
@[simp] theorem Ij{i:Nat}:ev prog C (.frz i) σ H=bo (aV σ i) λv=>eC v H:=rfl
@[simp] theorem Fk:ev prog C .cnone σ H = .ok .none H:=rfl
@[simp] theorem Fm{b:Bool}:ev prog C (.cbool b) σ H = .ok (.bool b) H:=rfl
@[simp] theorem sU{i:Int}:ev prog C (.cint i) σ H = .ok (.int i) H:=rfl
@[simp] theorem Gw{l:List Nat}:ev prog C (.cstr l) σ H = .ok (.str l) H:=rfl
@[simp] theorem Gx{l:List UInt8}:ev prog C (.cbyt l) σ H = .ok (.byt l) H:=rfl
@[simp] theorem wV{op:BK}{a b:E}:ev prog C (.bin op a b) σ H=(ev prog C a σ H).vb λx H1=>(ev prog C b σ H1).vb λy H2=>aL op x y H2:=rfl
@[simp] theorem Ik{a:E}:ev prog C (.neg a) σ H=(ev prog C a σ H).vb λx H1=>x.onI (λi=>.ok (.int (-i)) H1) .bad:=rfl
@[simp] theorem Il{op:pQ}{a b:E}:ev prog C (.cmp op a b) σ H=(ev prog C a σ H).vb λx H1=>(ev prog C b σ H1).vb λy H2=>aw op x y H2:=rfl
@[simp] theorem wW{a b:E}:ev prog C (.and a b) σ H=(asB (ev prog C a σ H)).vb λx H1=>match x with
  |true=>asB (ev prog C b σ H1)|>.vb λy H2=>.ok (.bool y) H2
  |false=>.ok (.bool false) H1:=rfl
@[simp] theorem Bv{a b:E}:ev prog C (.or a b) σ H=(asB (ev prog C a σ H)).vb λx H1=>match x with
  |true=>.ok (.bool true) H1
  |false=>asB (ev prog C b σ H1)|>.vb λy H2=>.ok (.bool y) H2:=rfl
@[simp] theorem C8{t a b:E}:ev prog C (.ife t a b) σ H=(ck prog C t σ H).vb λr H1=>match r with
  |true=>(ev prog C a σ H1).vb okv
  |false=>(ev prog C b σ H1).vb okv:=rfl
@[simp] theorem Im{es:Es}:ev prog C (.tup es) σ H=(eJ prog C es σ H).vb λvs H1=>guard (!vs.any V.isObj) (.ok (.tup vs) H1):=rfl
@[simp] theorem Io{own:Bool}{es:Es}:ev prog C (.lst own es) σ H=(eJ prog C es σ H).vb λvs H1=>guard (!vs.any V.isObj) (mk own vs H1):=rfl
@[simp] theorem Gy:ev prog C .dct0 σ H = .ok (.obj H.length) (H++[.dct []]):=rfl
@[simp] theorem Ip{a i:E}:ev prog C (.sub a i) σ H=(ev prog C a σ H).vb λx H1=>(ev prog C i σ H1).vb λy H2=>c0 x y H2:=rfl
@[simp] theorem Fp{a lo hi:E}:ev prog C (.sl a lo hi) σ H=(ev prog C a σ H).vb λx H1=>((ev prog C lo σ H1).vb λy H2=>(ev prog C hi σ H2).vb λz H3=>y.onI (λl=>z.onI (λh=>.ok (l,h) H3) .bad) .bad).vb λw H4=>n7 x w.1 w.2 H4:=rfl
@[simp] theorem Gz{a hi:E}:ev prog C (.slTo a hi) σ H=(ev prog C a σ H).vb λx H1=>((ev prog C hi σ H1).vb λz H3=>z.onI (λh=>.ok h H3) .bad).vb λw H4=>mw x w H4:=rfl
@[simp] theorem zV{o:E}{k:Nat}:ev prog C (.attr o k) σ H=(ev prog C o σ H).vb λx H1=>(aX x k H1).vb λv H2=>.ok v H2:=rfl
@[simp] theorem nv{f:Nat}{es:Es}:ev prog C (.call f es) σ H=(eJ prog C es σ H).vb λvs H1=>C f vs H1:=rfl
@[simp] theorem ij{f:Nat}{o:E}{es:Es}:ev prog C (.meth f o es) σ H=(ev prog C o σ H).vb λx H1=>guard (jd (bv f) x H1) ((eJ prog C es σ H1).vb λvs H2=>C f (x::vs) H2):=rfl
@[simp] theorem wX{c:Nat}{es:Es}:ev prog C (.new c es) σ H=(eJ prog C es σ H).vb λvs H1=>eS prog C c vs H1:=rfl
@[simp] theorem Fq{op:B1}{a:E}:ev prog C (.b1 op a) σ H=(ev prog C a σ H).vb λx H1=>bG op x H1:=rfl
@[simp] theorem Iq:ev prog C .ba0 σ H = .ok (.obj H.length) (H++[.ba []]):=rfl
@[simp] theorem Ir{es:Es}:ev prog C (.rng es) σ H=(eJ prog C es σ H).vb λvs H1=>bW vs H1:=rfl
@[simp] theorem Iu{o a:E}:ev prog C (.app o a) σ H=(ev prog C o σ H).vb λx H1=>guard (tI x H1) ((ev prog C a σ H1).vb λy H2=>cj x y H2):=rfl
@[simp] theorem Iw{o a:E}:ev prog C (.ext o a) σ H=(ev prog C o σ H).vb λx H1=>guard (yA x H1) ((ev prog C a σ H1).vb λy H2=>eD x y H2):=rfl
@[simp] theorem Fs{a:E}:ev prog C (.joinS a) σ H=(ev prog C a σ H).vb λx H1=>x.onL (λxs=>bo (joinS xs) λl=>guard (decide (l.length<=aq)) (.ok (.str l) H1)) .bad:=rfl
@[simp] theorem Ft{a:E}:ev prog C (.joinB a) σ H=(ev prog C a σ H).vb λx H1=>x.onL (λxs=>bo (joinB xs) λl=>guard (decide (l.length<=aq)) (.ok (.byt l) H1)) .bad:=rfl
@[simp] theorem GA{own:Bool}{elt:E}{t:Tg}{it:E}:ev prog C (.comp own elt t it) σ H=kz own (cp C elt t σ) (ev prog C it σ H):=rfl
@[simp] theorem DW{own:Bool}{elt:E}{t:Tg}{it c:E}:ev prog C (.compIf own elt t it c) σ H=kz own (Bu C elt t c σ) (ev prog C it σ H):=rfl
theorem fj{own:Bool}{f:V->Hp->Out (Option V)}{v:V}{xs vs:List V}{H1:Hp}(h:elems v=some xs)(hc:aE f xs H = .ok vs H1):kz own f (.ok v H)=mk own vs H1:=by unfold kz;simp only[Out.vb,h,hc]
@[simp] theorem eg:eJ prog C .nil σ H = .ok [] H:=rfl
@[simp] theorem dR{e:E}{es:Es}:eJ prog C (.cons e es) σ H=(ev prog C e σ H).vb λv H1=>(eJ prog C es σ H1).vb λvs H2=>.ok (v::vs) H2:=rfl
@[simp] theorem GB{a:E}:ck prog C (.not a) σ H=(ck prog C a σ H).vb λb H1=>.ok (!b) H1:=rfl
@[simp] theorem sY{a b:E}:ck prog C (.and a b) σ H=(ck prog C a σ H).vb λx H1=>match x with
  |true=>(ck prog C b σ H1).vb λy H2=>.ok y H2
  |false=>.ok false H1:=rfl
@[simp] theorem Ix{a b:E}:ck prog C (.or a b) σ H=(ck prog C a σ H).vb λx H1=>match x with
  |true=>.ok true H1
  |false=>(ck prog C b σ H1).vb λy H2=>.ok y H2:=rfl
@[simp] theorem GC{a b c:E}:ck prog C (.or3 a b c) σ H=(ck prog C a σ H).vb λx H1=>match x with
  |true=>.ok true H1
  |false=>(ck prog C b σ H1).vb λy H2=>match y with
   |true=>.ok true H2
   |false=>(ck prog C c σ H2).vb λz H3=>.ok z H3:=rfl
@[simp] theorem GD{op:pQ}{a b:E}:ck prog C (.cmp op a b) σ H=(ev prog C a σ H).vb λx H1=>(ev prog C b σ H1).vb λy H2=>asB (aw op x y H2):=rfl
@[simp] theorem Fu{o1 o2:pQ}{a b c:E}:ck prog C (.cmp2 o1 o2 a b c) σ H=(ev prog C a σ H).vb λx H1=>(ev prog C b σ H1).vb λy H2=>(asB (aw o1 x y H2)).vb λr H3=>match r with
  |true=>(ev prog C c σ H3).vb λz H4=>asB (aw o2 y z H4)
  |false=>.ok false H3:=rfl
@[simp] theorem Fv{f:Nat}{es:Es}:ck prog C (.call f es) σ H=asB ((eJ prog C es σ H).vb λvs H1=>C f vs H1):=rfl
@[simp] theorem ce{α β:Type}{a:α}{f:α->Hp->Out β}:(Out.ok a H).vb f=f a H:=rfl
@[simp] theorem l9{α β:Type}{a:α}{f:α->Hp->Out β}:(Out.ok a H).sb f=f a H:=rfl
@[simp] theorem wY{α β:Type}{f:α->Hp->Out β}:(Out.exc H:Out α).sb f = .exc H:=rfl
@[simp] theorem Iy{α β:Type}{f:α->Hp->Out β}:(Out.bad:Out α).vb f = .bad:=rfl
@[simp] theorem bu{α:Type}{x:Out α}:guard true x=x:=rfl
@[simp] theorem bQ{v:V}:optV (some v) H = .ok v H:=rfl
@[simp] theorem fm{x:Option V}{r:ai}:aV (x::r) 0=x:=rfl
@[simp] theorem fq{x:Option V}{r:ai}{n:Nat}:aV (x::r) (n+1)=aV r n:=rfl
@[simp] theorem iR{x:Option V}{r:ai}{v:V}:ao (x::r) 0 v=some v::r:=rfl
@[simp] theorem iS{x:Option V}{r:ai}{n:Nat}{v:V}:ao (x::r) (n+1) v=x::ao r n v:=rfl
@[simp] theorem wZ{b:Bool}:asB (.ok (.bool b) H) = .ok b H:=rfl
@[simp] theorem Fw{f:V->ai->Hp->Out (Fl × ai)}:bU f [] σ H = .ok (.next,σ) H:=rfl
theorem bR{f:V->ai->Hp->Out (Fl × ai)}{x:V}{xs:List V}{σ':ai}{H1:Hp}(h:f x σ H = .ok (.next,σ') H1):bU f (x::xs) σ H=bU f xs σ' H1:=by simp only[qb,mx,h,l9]
@[simp] theorem w0{i:Nat}{body:Ss}{v:V}:lp C (.one i) body v σ H=bA prog C body (ao σ i v) H:=rfl
@[simp] theorem Iz{i j:Nat}{body:Ss}{a b:V}:lp C (.two i j) body (.tup [a,b]) σ H=bA prog C body (ao (ao σ i a) j b) H:=rfl
@[simp] theorem C9{elt:E}{i:Nat}{v:V}:cp C elt (.one i) σ v H=(ev prog C elt (ao σ i v) H).vb λr H'=>.ok (some r) H':=rfl
@[simp] theorem IA{elt:E}{i j:Nat}{a b:V}:cp C elt (.two i j) σ (.tup [a,b]) H=(ev prog C elt (ao (ao σ i a) j b) H).vb λr H'=>.ok (some r) H':=rfl
@[simp] theorem DX{f:V->Hp->Out (Option V)}:aE f [] H = .ok [] H:=rfl
end
@[simp] theorem zW{x y:Int}{H:Hp}:aL .add (.int x) (.int y) H = .ok (.int (x+y)) H:=rfl
@[simp] theorem Fx{x y:List UInt8}{H:Hp}:aL .add (.byt x) (.byt y) H=guard (decide ((x++y).length<=aq)) (.ok (.byt (x++y)) H):=rfl
@[simp] theorem Fy{x y:List Nat}{H:Hp}:aL .add (.str x) (.str y) H=guard (decide ((x++y).length<=aq)) (.ok (.str (x++y)) H):=rfl
@[simp] theorem Fz{x y:List V}{H:Hp}:aL .add (.lst x) (.lst y) H=guard (decide ((x++y).length<=aq)) (.ok (.lst (x++y)) H):=rfl
@[simp] theorem GE{x y:Int}{H:Hp}:aL .sub (.int x) (.int y) H = .ok (.int (x - y)) H:=rfl
@[simp] theorem GF{x y:Int}{H:Hp}:aL .mul (.int x) (.int y) H=guard (small x||small y) (.ok (.int (x*y)) H):=rfl
@[simp] theorem FA{x y:Int}{H:Hp}:aL .fdiv (.int x) (.int y) H=guard (decide (y≠0)) (.ok (.int (x.fdiv y)) H):=rfl
@[simp] theorem GG{x y:Int}{H:Hp}:aL .mod (.int x) (.int y) H=guard (decide (y≠0)) (.ok (.int (x.fmod y)) H):=rfl
theorem zX{x y:Int}{H:Hp}:aL .shl (.int x) (.int y) H=guard (small x&&decide (0<=y)&&decide (y<64)) (.ok (.int (x*2 ^ y.toNat)) H):=rfl
theorem zY{x y:Int}{H:Hp}:aL .shr (.int x) (.int y) H=guard (decide (0<=y)&&decide (y<64)) (.ok (.int (x.fdiv (2 ^ y.toNat))) H):=rfl
theorem w4{x y:Int}{H:Hp}:aL .band (.int x) (.int y) H=guard (decide (0<=x)&&decide (0<=y)) (.ok (.int (x.toNat &&& y.toNat:Nat)) H):=rfl
theorem zZ{x y:Int}{H:Hp}:aL .bor (.int x) (.int y) H=guard (decide (0<=x)&&decide (0<=y)) (.ok (.int (x.toNat|||y.toNat:Nat)) H):=rfl
@[simp] theorem IB{a b:V}{H:Hp}:aw .eq a b H=optB (n6 a b) H:=rfl
@[simp] theorem IC{x y:Int}{H:Hp}:aw .ne (.int x) (.int y) H = .ok (.bool (!(x==y))) H:=rfl
@[simp] theorem GH{x y:Bool}{H:Hp}:aw .ne (.bool x) (.bool y) H = .ok (.bool (!(x==y))) H:=rfl
@[simp] theorem GI{x y:List V}{H:Hp}:aw .ne (.lst x) (.lst y) H=optB ((n6 (.lst x) (.lst y)).map (!·)) H:=rfl
@[simp] theorem ID{x y:Int}{H:Hp}:aw .lt (.int x) (.int y) H = .ok (.bool (decide (x<y))) H:=rfl
@[simp] theorem GJ{x y:List Nat}{H:Hp}:aw .lt (.str x) (.str y) H = .ok (.bool (iA x y)) H:=rfl
@[simp] theorem IE{x y:Int}{H:Hp}:aw .le (.int x) (.int y) H = .ok (.bool (decide (x<=y))) H:=rfl
@[simp] theorem IF{x y:Int}{H:Hp}:aw .gt (.int x) (.int y) H = .ok (.bool (decide (y<x))) H:=rfl
@[simp] theorem GK{x y:List Nat}{H:Hp}:aw .gt (.str x) (.str y) H = .ok (.bool (iA y x)) H:=rfl
@[simp] theorem IG{x y:Int}{H:Hp}:aw .ge (.int x) (.int y) H = .ok (.bool (decide (y<=x))) H:=rfl
@[simp] theorem GL{x y:List Nat}{H:Hp}:aw .ge (.str x) (.str y) H = .ok (.bool (!iA x y)) H:=rfl
@[simp] theorem GM{x:V}{y:List V}{H:Hp}:aw .isin x (.lst y) H=optB (ln x y) H:=rfl
@[simp] theorem GN{x:V}{y:List V}{H:Hp}:aw .notin x (.lst y) H=optB ((ln x y).map (!·)) H:=rfl
@[simp] theorem GO{x:V}{y:List V}{H:Hp}:aw .notin x (.tup y) H=optB ((ln x y).map (!·)) H:=rfl
theorem dM{β:Type}{i:Nat}{o:O}{H:Hp}{f:Nat->O->Out β}(h:ak H i=some o):(V.obj i).at H f=f i o:=congrArg (λx=>bo x (f i)) h
theorem aU{β:Type}{c:Bool}{x:Out β}(h:c=true):guard c x=x:=h▸rfl
theorem ej{c k i:Nat}{fs:List (Nat × V)}{H:Hp}(g:ak H i=some (.ins k fs))(h:k=c):jd c (.obj i) H=true:=(congrArg (Option.any λob:O=>ob.onI (λ(k:Nat) _=>decide (k=c)) false) g).trans (decide_eq_true h)
theorem Da{i:Nat}{l:List UInt8}{H:Hp}(g:ak H i=some (.ba l)):yA (.obj i) H=true:=congrArg (Option.any λob:O=>ob.onB (λ_=>true) false) g
theorem kA{i:Nat}{l:List V}{H:Hp}(g:ak H i=some (.lst l)):tI (.obj i) H=true:=congrArg (Option.any λob:O=>ob.onL (λ_=>true) false) g
theorem Db{i:Nat}{l x:List UInt8}{H:Hp}(g:ak H i=some (.ba l))(hl:(l++x).length<=aq):eD (.obj i) (.byt x) H = .ok .none (au H i (.ba (l++x))):=
 (dM (f:=λi ob=>ob.onB (λl=>guard (decide ((l++x).length<=aq)) (.ok V.none (au H i (.ba (l++x))))) .bad) g).trans (aU (decide_eq_true hl))
theorem fu{H H':Hp}{i:Nat}{xs:List V}{v:V}(g:ak H i=some (.lst xs))(ho:v.isObj=false)(hl:xs.length<aq)(hs:au H i (.lst (xs++[v]))=H'):cj (.obj i) v H = .ok .none H':=
 hs▸(dM (f:=λi ob=>ob.onL (λxs=>guard (!v.isObj&&decide (xs.length<aq)) (.ok V.none (au H i (.lst (xs++[v]))))) .bad) g).trans (aU (aT (ho▸rfl) (decide_eq_true hl)))
theorem fQ{i:Nat}{l:List V}{H H':Hp}(g:ak H i=some (.lst l))(hs:au H i .dead=H'):eC (.obj i) H = .ok (.lst l) H':=hs▸dM (f:=λi o=>o.onL (λxs=>.ok (V.lst xs) (au H i .dead)) (o.onD (λkvs=>.ok (V.dct kvs) (au H i .dead)) .bad)) g
theorem z0{i:Nat}{l:List (List Nat × V)}{H H':Hp}(g:ak H i=some (.dct l))(hs:au H i .dead=H'):eC (.obj i) H = .ok (.dct l) H':=hs▸dM (f:=λi o=>o.onL (λxs=>.ok (V.lst xs) (au H i .dead)) (o.onD (λkvs=>.ok (V.dct kvs) (au H i .dead)) .bad)) g
theorem w5{H:Hp}{i:Nat}{kvs:List (List Nat × V)}{k:List Nat}{v:V}(g:ak H i=some (.dct kvs))(hl:kvs.length<aq)(ho:v.isObj=false):dU (.obj i) (.str k) v H = .ok () (au H i (.dct (cx kvs k v))):=
 (dM (f:=λj ob=>ob.onL (λxs=>.bad) (ob.onD (λkvs=>guard (decide (kvs.length<aq)&&!v.isObj) (.ok () (au H j (.dct (cx kvs k v))))) .bad)) g).trans (aU (aT (decide_eq_true hl) (ho▸rfl)))
theorem nw{C:Nat->List V->Hp->Out V}{c k:Nat}{vs:List V}{fs:List (Nat × V)}{H H1:Hp}(h:C (prog.ini c) (.obj H.length::vs) (H++[.ins c []]) = .ok .none H1)(g:ak H1 H.length=some (.ins k fs)) :
  eS prog C c vs H=match prog.fix c with
   |true=>guard (iY 0 fs&&a8 H.length (H1.take H.length)) (.ok (V.rcd k fs) (H1.take H.length))
   |false=>.ok (.obj H.length) H1:=by
 show Out.vb _ _=_;rw[h];show bo (ak H1 H.length) _=_;rw[g]
 rfl
theorem z5{x:V}{i:Nat}{y:List V}{H:Hp}(h:ak H i=some (.lst y)):aw .notin x (.obj i) H=optB ((ln x y).map (!·)) H:=dM (f:=λ_ o=>o.onL (λxs=>optB ((ln x xs).map (!·)) H) .bad) h
@[simp] theorem DY{b:Bool}{H:Hp}:optB (some b) H = .ok (.bool b) H:=rfl
@[simp] theorem sub_tup{x:List V}{i:Int}{H:Hp}:c0 (.tup x) (.int i) H=optV (eR x i) H:=rfl
@[simp] theorem sub_lst{x:List V}{i:Int}{H:Hp}:c0 (.lst x) (.int i) H=optV (eR x i) H:=rfl
@[simp] theorem sub_dct{x:List (List Nat × V)}{k:List Nat}{H:Hp}:c0 (.dct x) (.str k) H=optV (fy x k) H:=rfl
theorem z6{x:List V}{j:Nat}{i:Int}{H:Hp}(h:ak H j=some (.lst x)):c0 (.obj j) (.int i) H=optV (eR x i) H:=dM (f:=λ_ o=>o.onL (λxs=>optV (eR xs i) H) .bad) h
@[simp] theorem len_str{x:List Nat}{H:Hp}:bG .len (.str x) H = .ok (.int x.length) H:=rfl
@[simp] theorem GP{x:List UInt8}{H:Hp}:bG .len (.byt x) H = .ok (.int x.length) H:=rfl
@[simp] theorem GQ{x:List V}{H:Hp}:bG .len (.tup x) H = .ok (.int x.length) H:=rfl
@[simp] theorem sZ{x:List V}{H:Hp}:bG .len (.lst x) H = .ok (.int x.length) H:=rfl
@[simp] theorem GR{x:List (List Nat × V)}{H:Hp}:bG .len (.dct x) H = .ok (.int x.length) H:=rfl
theorem w6{x:List V}{i:Nat}{H:Hp}(h:ak H i=some (.lst x)):bG .len (.obj i) H = .ok (.int x.length) H:=congrArg (λo:Option O=>bo (o.bind λo=>o.onL (λl=>some l.length) (o.onD (λl=>some l.length) none)) λn=>Out.ok (V.int n) H) h
theorem Dc{c:UInt8}{H:Hp}:bG .chr (.int c.toNat) H = .ok (.str [c.toNat]) H:=
 aU (c:=decide ((0:Int)<=c.toNat)&&decide ((c.toNat:Int)<256)) (aT (decide_eq_true (LQ _)) (decide_eq_true (Mi.mpr c.toNat_lt)))
@[simp] theorem IH{c:Nat}{H:Hp}:bG .ord (.str [c]) H = .ok (.int c) H:=rfl
theorem bytes_lst{xs:List V}{H:Hp}:bG .bytes (.lst xs) H=bo (cR xs) λl=>.ok (.byt l) H:=rfl
theorem w7{i:Nat}{l:List UInt8}{H:Hp}(g:ak H i=some (.ba l)):bG .bytes (.obj i) H = .ok (.byt l) H:=dM (f:=λ_ o=>o.onB (λl=>.ok (V.byt l) H) .bad) g
theorem dk{i c k:Nat}{fs:List (Nat × V)}{v:V}{H:Hp}(h:ak H i=some (.ins c fs))(hk:gp c k=true)(ha:Ba fs k=some v):aX (.obj i) k H = .ok v H:=(dM (f:=λ_ ob=>ob.onI (λc fs=>guard (gp c k) (optV (Ba fs k) H)) .bad) h).trans ((aU hk).trans (congrArg (optV · H) ha))
theorem fv{c k:Nat}{fs:List (Nat × V)}{v:V}{H:Hp}(hk:gp c k=true)(ha:Ba fs k=some v):aX (.rcd c fs) k H = .ok v H:=(aU hk:guard (gp c k) (optV (Ba fs k) H)=_).trans (congrArg (optV · H) ha)
theorem cv{i c k:Nat}{fs:List (Nat × V)}{v:V}{H:Hp}(h:ak H i=some (.ins c fs))(hk:gp c k=true)(hl:fs.length<50):jH (.obj i) k v H = .ok () (au H i (.ins c (iB fs k v))):=(dM (f:=λj ob=>ob.onI (λc fs=>guard (gp c k&&decide (fs.length<50)) (.ok () (au H j (.ins c (iB fs k v))))) .bad) h).trans (aU (aT hk (decide_eq_true hl)))
@[simp] theorem II{o:O}{r:Hp}:ak (o::r) 0=some o:=rfl
@[simp] theorem IJ{o:O}{r:Hp}{n:Nat}:ak (o::r) (n+1)=ak r n:=rfl
@[simp] theorem nz{o p:O}{r:Hp}:au (o::r) 0 p=p::r:=rfl
@[simp] theorem IK{o p:O}{r:Hp}{n:Nat}:au (o::r) (n+1) p=o::au r n p:=rfl
theorem aQ{f:V->Hp->Out (Option V)}{H:Hp}{g:α->V}{k:α->V}:∀{l:List α},(∀x∈l,f (g x) H = .ok (some (k x)) H/\(k x).isObj=false)->aE f (l.map g) H = .ok (l.map k) H:=by
 intro l
 induction l with
 |nil=>
  intro _;exact rfl
 |cons x r ih=>
  intro h;obtain⟨h1,h2⟩:=h x LL;simp only[List.map_cons,jj,gG,h1,ce,ih λy hy=>h y (List.mem_cons_of_mem _ hy),h2,Bool.not_false,bu]
section
variable{C:Nat->List V->Hp->Out V}{σ σ':ai}{H H1 H2 H3:Hp}{s:S}{ss a b:Ss}{r:Out (Fl × ai)}{e e1 e2 e3 o:E}{es:Es}{v w x:V}{vs:List V}{c:Bool}{i f:Nat}{t:E}
theorem sS(h:ex prog C s σ H = .ok (.next,σ') H1)(k:bA prog C ss σ' H1=r):bA prog C (.cons s ss) σ H=r:=(congrArg (sL C ss) h).trans k
theorem sA(h:ev prog C e σ H = .ok v H1)(k:bA prog C ss (ao σ i v) H1=r):bA prog C (.cons (.asg i e) ss) σ H=r:=sS (congrArg (λo:Out V=>o.vb λv H1=>.ok (Fl.next,ao σ i v) H1) h) k
theorem sX(h:ev prog C e σ H = .ok v H1)(k:bA prog C ss σ H1=r):bA prog C (.cons (.xpr e) ss) σ H=r:=sS (congrArg (λo:Out V=>o.sb λ_ H1=>.ok (Fl.next,σ) H1) h) k
theorem sF(h:ck prog C t σ H = .ok c H1)(hc:c=false)(k:bA prog C ss σ H1=r):bA prog C (.cons (.ite t a .nil) ss) σ H=r:=sS (by subst hc;exact congrArg (wP C a .nil σ) h) k
theorem sR(h:ev prog C e σ H = .ok v H1):bA prog C (.cons (.ret e) ss) σ H = .ok (.ret v,σ) H1:=congrArg (λo:Out V=>sL C ss (o.sb λv H1=>.ok (.ret v,σ) H1)) h
theorem av{r:Out V}(h:eJ prog C es σ H = .ok vs H1)(k:C f vs H1=r):ev prog C (.call f es) σ H=r:=(congrArg (λo:Out (List V)=>o.vb λvs H1=>C f vs H1) h).trans k
theorem w8(h:eJ prog C es σ H = .ok vs H1)(k:eS prog C f vs H1 = .ok v H2):ev prog C (.new f es) σ H = .ok v H2:=(congrArg (λo:Out (List V)=>o.vb λvs H1=>eS prog C f vs H1) h).trans k
theorem dA(ho:ev prog C o σ H = .ok x H1)(hi:jd (bv f) x H1=true)(h:eJ prog C es σ H1 = .ok vs H2)(k:C f (x::vs) H2 = .ok v H3):ev prog C (.meth f o es) σ H = .ok v H3:=
 (congrArg (λo:Out V=>o.vb λx H1=>guard (jd (bv f) x H1) ((eJ prog C es σ H1).vb λvs H2=>C f (x::vs) H2)) ho).trans ((aU hi).trans ((congrArg (λo:Out (List V)=>o.vb λvs H2=>C f (x::vs) H2) h).trans k))
theorem a1(h:ev prog C e σ H = .ok v H1):eJ prog C (.cons e .nil) σ H = .ok [v] H1:=congrArg (λo:Out V=>o.vb λv H1=>.ok [v] H1) h
theorem bn{op:BK}(h:ev prog C e1 σ H = .ok v H1)(h2:ev prog C e2 σ H1 = .ok w H2)(k:aL op v w H2 = .ok x H3):ev prog C (.bin op e1 e2) σ H = .ok x H3:=
 (congrArg (λo:Out V=>o.vb λx H1=>(ev prog C e2 σ H1).vb λy H2=>aL op x y H2) h).trans ((congrArg (λo:Out V=>o.vb λy H2=>aL op v y H2) h2).trans k)
theorem dB{own:Bool}{elt it:E}{tg:Tg}{xs ws:List V}(h:ev prog C it σ H = .ok v H1)(hx:elems v=some xs)(hc:aE (cp C elt tg σ) xs H1 = .ok ws H2)(k:mk own ws H2 = .ok x H3):ev prog C (.comp own elt tg it) σ H = .ok x H3:=
 (congrArg (kz own (cp C elt tg σ)) h).trans ((fj hx hc).trans k)
theorem Aa{own:Bool}{elt it d:E}{tg:Tg}{xs ws:List V}(h:ev prog C it σ H = .ok v H1)(hx:elems v=some xs)(hc:aE (Bu C elt tg d σ) xs H1 = .ok ws H2)(k:mk own ws H2 = .ok x H3):ev prog C (.compIf own elt tg it d) σ H = .ok x H3:=
 (congrArg (kz own (Bu C elt tg d σ)) h).trans ((fj hx hc).trans k)
theorem w9{a b:Int}{H:Hp}(h:b≠0):aL .mod (.int a) (.int b) H = .ok (.int (a.fmod b)) H:=aU (decide_eq_true h)
theorem s6{a b:List UInt8}{H:Hp}(h:(a++b).length<=aq):aL .add (.byt a) (.byt b) H = .ok (.byt (a++b)) H:=aU (decide_eq_true h)
theorem rj{l:List UInt8}{xs:List V}(h:ev prog C e σ H = .ok (.lst xs) H1)(k:joinB xs=some l)(hl:l.length<=aq):ev prog C (.joinB e) σ H = .ok (.byt l) H1:=
 (congrArg (λo:Out V=>o.vb λx H1=>x.onL (λxs=>bo (joinB xs) λl=>guard (decide (l.length<=aq)) (.ok (V.byt l) H1)) .bad) h).trans ((congrArg (λo=>bo o λl:List UInt8=>guard (decide (l.length<=aq)) (.ok (V.byt l) H1)) k).trans (aU (decide_eq_true hl)))
theorem Dd{d:E}{i:Nat}(h:ck prog C d (ao σ i v) H = .ok false H1):Bu C e (.one i) d σ v H = .ok none H1:=congrArg (λo:Out Bool=>o.vb λb H'=>match b with
  |true=>(ev prog C e (ao σ i v) H').vb λr H''=>.ok (some r) H''
  |false=>.ok none H') h
theorem ik{i:Nat}(h:ev prog C e (ao σ i v) H = .ok w H1):cp C e (.one i) σ v H = .ok (some w) H1:=congrArg (λo:Out V=>o.vb λr H'=>.ok (some r) H') h
theorem ji(h:eJ prog C es σ H = .ok vs H1)(k:bW vs H1 = .ok v H2):ev prog C (.rng es) σ H = .ok v H2:=(congrArg (λo:Out (List V)=>o.vb λvs H1=>bW vs H1) h).trans k
theorem aC(h:ev prog C e σ H = .ok v H1)(k:eJ prog C es σ H1 = .ok vs H2):eJ prog C (.cons e es) σ H = .ok (v::vs) H2:=
 (congrArg (λo:Out V=>o.vb λv H1=>(eJ prog C es σ H1).vb λvs H2=>.ok (v::vs) H2) h).trans (congrArg (λo:Out (List V)=>o.vb λvs H2=>.ok (v::vs) H2) k)
theorem xb(h:eJ prog C es σ H = .ok vs H1)(k:vs.any V.isObj=false):ev prog C (.tup es) σ H = .ok (.tup vs) H1:=(congrArg (λo:Out (List V)=>o.vb λvs H1=>guard (!vs.any V.isObj) (.ok (V.tup vs) H1)) h).trans (aU (k▸rfl))
theorem il{n:Nat}(h:ev prog C e σ H = .ok v H1)(k:aX v n H1 = .ok w H1):ev prog C (.attr e n) σ H = .ok w H1:=(congrArg (λo:Out V=>o.vb λx H1=>(aX x n H1).vb λv H2=>.ok v H2) h).trans (congrArg (λo:Out V=>o.vb λv H2=>.ok v H2) k)
theorem K7{l u:Int}(h1:ev prog C e1 σ H = .ok v H1)(h2:ev prog C e2 σ H1 = .ok (.int l) H2)(h3:ev prog C e3 σ H2 = .ok (.int u) H3)(k:n7 v l u H3 = .ok w H3):ev prog C (.sl e1 e2 e3) σ H = .ok w H3:=
 (congrArg (λo:Out V=>o.vb λx H1=>((ev prog C e2 σ H1).vb λy H2=>(ev prog C e3 σ H2).vb λz H3=>y.onI (λl=>z.onI (λh=>.ok (l,h) H3) .bad) .bad).vb λw H4=>n7 x w.1 w.2 H4) h1).trans
  ((congrArg (λo:Out V=>(o.vb λy H2=>(ev prog C e3 σ H2).vb λz H3=>y.onI (λl=>z.onI (λh=>.ok (l,h) H3) .bad) .bad).vb λw H4=>n7 v w.1 w.2 H4) h2).trans
  ((congrArg (λo:Out V=>(o.vb λz H3=>z.onI (λh=>.ok (l,h) H3) .bad).vb λw H4=>n7 v w.1 w.2 H4) h3).trans k))
theorem n0{op:B1}(h:ev prog C e σ H = .ok v H1)(k:bG op v H1 = .ok w H1):ev prog C (.b1 op e) σ H = .ok w H1:=(congrArg (λo:Out V=>o.vb λx H1=>bG op x H1) h).trans k
theorem pv(ho:ev prog C o σ H = .ok x H1)(hi:tI x H1=true)(h:ev prog C e σ H1 = .ok w H2)(k:cj x w H2 = .ok v H3):ev prog C (.app o e) σ H = .ok v H3:=
 (congrArg (λo:Out V=>o.vb λx H1=>guard (tI x H1) ((ev prog C e σ H1).vb λy H2=>cj x y H2)) ho).trans ((aU hi).trans ((congrArg (λo:Out V=>o.vb λy H2=>cj x y H2) h).trans k))
theorem IL(ho:ev prog C o σ H = .ok x H1)(hi:yA x H1=true)(h:ev prog C e σ H1 = .ok w H2)(k:eD x w H2 = .ok v H3):ev prog C (.ext o e) σ H = .ok v H3:=
 (congrArg (λo:Out V=>o.vb λx H1=>guard (yA x H1) ((ev prog C e σ H1).vb λy H2=>eD x y H2)) ho).trans ((aU hi).trans ((congrArg (λo:Out V=>o.vb λy H2=>eD x y H2) h).trans k))
theorem rk{i:Nat}(h:aV σ i=some v)(k:eC v H = .ok w H1):ev prog C (.frz i) σ H = .ok w H1:=(congrArg (λo=>bo o λv=>eC v H) h).trans k
theorem GS{j:Nat}(h:ev prog C e σ H = .ok (.tup [v,w]) H1)(k:bA prog C ss (ao (ao σ i v) j w) H1=r):bA prog C (.cons (.asg2 i j e) ss) σ H=r:=
 sS (congrArg (λo:Out V=>o.vb λv H1=>v.onT (λxs=>pS xs (λa b=>.ok (Fl.next,ao (ao σ i a) j b) H1) .bad) .bad) h) k
theorem lG{tg:Tg}{xs:List V}(h:ev prog C e σ H = .ok v H1)(hx:elems v=some xs)(hl:bU (lp C tg a) xs σ H1 = .ok (.next,σ') H2)(k:bA prog C ss σ' H2=r):bA prog C (.cons (.for tg e a) ss) σ H=r:=
 sS ((congrArg (wQ C tg a σ) h).trans ((ii hx).trans hl)) k
theorem xc{b:Bool}(h:eJ prog C es σ H = .ok vs H1)(k:C f vs H1 = .ok (.bool b) H2):ck prog C (.call f es) σ H = .ok b H2:=(congrArg (λo:Out (List V)=>asB (o.vb λvs H1=>C f vs H1)) h).trans (congrArg asB k)
theorem rn{b:Bool}(h:ck prog C e σ H = .ok b H1):ck prog C (.not e) σ H = .ok (!b) H1:=congrArg (λo:Out Bool=>o.vb λb H1=>.ok (!b) H1) h
theorem bM{op:pQ}{b:Bool}(h:ev prog C e1 σ H = .ok v H1)(h2:ev prog C e2 σ H1 = .ok w H2)(k:aw op v w H2 = .ok (.bool b) H2):ck prog C (.cmp op e1 e2) σ H = .ok b H2:=
 (congrArg (λo:Out V=>o.vb λx H1=>(ev prog C e2 σ H1).vb λy H2=>asB (aw op x y H2)) h).trans ((congrArg (λo:Out V=>o.vb λy H2=>asB (aw op v y H2)) h2).trans (congrArg asB k))
theorem s7{o1 o2:pQ}{b:Bool}(h:ev prog C e1 σ H = .ok v H1)(h2:ev prog C e2 σ H1 = .ok w H2)(k:aw o1 v w H2 = .ok (.bool true) H2)(h3:ev prog C e3 σ H2 = .ok x H3)(k2:aw o2 w x H3 = .ok (.bool b) H3):ck prog C (.cmp2 o1 o2 e1 e2 e3) σ H = .ok b H3:=by
 show((ev prog C e1 σ H).vb _)=_;rw[h];show((ev prog C e2 σ H1).vb _)=_;rw[h2];show((asB (aw o1 v w H2)).vb _)=_;rw[k];show((ev prog C e3 σ H2).vb _)=_;rw[h3];exact congrArg asB k2
theorem nA{a b:Int}{H:Hp}(h:(small a||small b)=true):aL .mul (.int a) (.int b) H = .ok (.int (a*b)) H:=aU h
theorem xd{c:Bool}{H:Hp}(h:c=true):(Out.ok (.bool c) H:Out V) = .ok (.bool true) H:=h▸rfl
theorem De{c:Bool}{H:Hp}(h:c=false):(Out.ok (.bool c) H:Out V) = .ok (.bool false) H:=h▸rfl
theorem DZ{b:Bool}(h:ck prog C e1 σ H = .ok false H1)(k:ck prog C e2 σ H1 = .ok b H2):ck prog C (.or e1 e2) σ H = .ok b H2:=
 (congrArg (λo:Out Bool=>o.vb λx H1=>match x with
  |true=>.ok true H1
  |false=>(ck prog C e2 σ H1).vb λy H2=>.ok y H2) h).trans (congrArg (λo:Out Bool=>o.vb λy H2=>.ok y H2) k)
theorem sQ(h:ex prog C s σ H = .ok (.ret v,σ') H1):bA prog C (.cons s ss) σ H = .ok (.ret v,σ') H1:=congrArg (sL C ss) h
theorem xT(h:ck prog C t σ H = .ok c H1)(hc:c=true)(k:bA prog C a σ H1=r):ex prog C (.ite t a b) σ H=r:=by subst hc;exact(congrArg (wP C a b σ) h).trans k
theorem IM(h:ex prog C s σ H = .exc H1):bA prog C (.cons s ss) σ H = .exc H1:=congrArg (sL C ss) h
theorem rX(h:ev prog C e σ H = .exc H1):bA prog C (.cons (.ret e) ss) σ H = .exc H1:=congrArg (λo:Out V=>sL C ss (o.sb λv H1=>.ok (.ret v,σ) H1)) h
theorem yO{q:Fl × ai}(h:bA prog C a σ H = .ok q H1):ex prog C (.tryx a b) σ H = .ok q H1:=by rw[sP,h]
theorem yX(h:bA prog C a σ H = .exc H1)(k:bA prog C b σ H1=r):ex prog C (.tryx a b) σ H=r:=by rw[sP,h];exact k
theorem FC{u:Unit}(h:ev prog C e σ H = .ok v H1)(h1:ev prog C e1 σ H1 = .ok x H2)(h2:ev prog C e2 σ H2 = .ok w H3){H4:Hp}(k:dU x w v H3 = .ok u H4):ex prog C (.asgS e1 e2 e) σ H = .ok (.next,σ) H4:=by
 rw[zU,h,ce,h1,ce,h2,ce,k,ce]
theorem ci(h:ev prog C e1 σ H = .ok v H1)(h2:ev prog C e2 σ H1 = .ok w H2)(k:c0 v w H2 = .ok x H3):ev prog C (.sub e1 e2) σ H = .ok x H3:=
 (congrArg (λo:Out V=>o.vb λx H1=>(ev prog C e2 σ H1).vb λy H2=>c0 x y H2) h).trans ((congrArg (λo:Out V=>o.vb λy H2=>c0 v y H2) h2).trans k)
theorem lH{op:pQ}(h:ev prog C e1 σ H = .ok v H1)(h2:ev prog C e2 σ H1 = .ok w H2)(k:aw op v w H2 = .ok x H3):ev prog C (.cmp op e1 e2) σ H = .ok x H3:=
 (congrArg (λo:Out V=>o.vb λx H1=>(ev prog C e2 σ H1).vb λy H2=>aw op x y H2) h).trans ((congrArg (λo:Out V=>o.vb λy H2=>aw op v y H2) h2).trans k)
theorem FD{own:Bool}(h:eJ prog C es σ H = .ok vs H1)(k:vs.any V.isObj=false)(m:mk own vs H1 = .ok v H2):ev prog C (.lst own es) σ H = .ok v H2:=(congrArg (λo:Out (List V)=>o.vb λvs H1=>guard (!vs.any V.isObj) (mk own vs H1)) h).trans ((aU (k▸rfl)).trans m)
theorem FE{y:Bool}(h:ev prog C e1 σ H = .ok (.bool true) H1)(k:ev prog C e2 σ H1 = .ok (.bool y) H2):ev prog C (.and e1 e2) σ H = .ok (.bool y) H2:=by rw[wW,h,wZ,ce];show Out.vb (asB _) _=_;rw[k];rfl
theorem JB{y:Bool}(h:ev prog C e1 σ H = .ok (.bool false) H1)(k:ev prog C e2 σ H1 = .ok (.bool y) H2):ev prog C (.or e1 e2) σ H = .ok (.bool y) H2:=by rw[Bv,h,wZ,ce];show Out.vb (asB _) _=_;rw[k];rfl
theorem IO(h:ev prog C e1 σ H = .ok (.bool true) H1):ev prog C (.or e1 e2) σ H = .ok (.bool true) H1:=by rw[Bv,h];rfl
theorem K8(h:ck prog C t σ H = .ok true H1)(k:ev prog C e1 σ H1 = .ok v H2):ev prog C (.ife t e1 e2) σ H = .ok v H2:=by rw[C8,h];show Out.vb (ev prog C e1 σ H1) _=_;rw[k];rfl
theorem rq{a b c:Int}{H:Hp}(h:b≠0)(e:a.fmod b=c):aL .mod (.int a) (.int b) H = .ok (.int c) H:=e▸w9 h
theorem nE{a b:Int}{H:Hp}(h:b≠0):aL .fdiv (.int a) (.int b) H = .ok (.int (a.fdiv b)) H:=aU (decide_eq_true h)
theorem s8{a b:List V}{H:Hp}(h:(a++b).length<=aq):aL .add (.lst a) (.lst b) H = .ok (.lst (a++b)) H:=aU (decide_eq_true h)
theorem GT{x y:List V}{b:Bool}(p:n6 (.lst x) (.lst y)=some b):aw .ne (.lst x) (.lst y) H = .ok (.bool !b) H:=congrArg (λo=>optB (Option.map (!·) o) H) p
theorem xe{b:Bool}(p:n6 x v=some b):aw .eq x v H = .ok (.bool b) H:=congrArg (optB · H) p
theorem nG{xs:List V}{i:Int}(h:eR xs i=some v):c0 (.lst xs) (.int i) H = .ok v H:=sub_lst.trans (congrArg (optV · H) h)
theorem ru{xs:List V}{i:Int}(h:eR xs i=some v):c0 (.tup xs) (.int i) H = .ok v H:=sub_tup.trans (congrArg (optV · H) h)
theorem pw{a b:Int}(h:small a=true):aL .mul (.int a) (.int b) H = .ok (.int (a*b)) H:=nA (by rw[h];rfl)
theorem rz{xs:List (List Nat × V)}{i:List Nat}(h:fy xs i=some v):c0 (.dct xs) (.str i) H = .ok v H:=sub_dct.trans (congrArg (optV · H) h)
theorem Df{xs:List V}{j:Nat}{i:Int}(g:ak H j=some (.lst xs))(h:eR xs i=some v):c0 (.obj j) (.int i) H = .ok v H:=(z6 g).trans (congrArg (optV · H) h)
theorem Bw{y z:Bool}(h:ck prog C e1 σ H = .ok y H1)(k:ck prog C e2 σ H1 = .ok z H1):ck prog C (.and e1 e2) σ H = .ok (y&&z) H1:=by
 rw[sY,h,ce]
 cases y with
 |false=>rfl
 |true=>show Out.vb _ _=_;rw[k];rfl
theorem xf{d:E}{i:Nat}(h:ck prog C d (ao σ i v) H = .ok c H1)(k:ev prog C e (ao σ i v) H1 = .ok w H1):Bu C e (.one i) d σ v H = .ok (if c then some w else none) H1:=by
 show Out.vb (ck prog C d (ao σ i v) H) _=_;rw[h]
 cases c with
 |false=>rfl
 |true=>show Out.vb (ev prog C e (ao σ i v) H1) _=_;rw[k];rfl
theorem sN{q:Out (Fl × ai)}(h:ex prog C s σ H=q)(k:sL C ss q=r):bA prog C (.cons s ss) σ H=r:=(congrArg (sL C ss) h).trans k
theorem pX(h:ev prog C e σ H = .exc H1):bA prog C (.cons (.xpr e) ss) σ H = .exc H1:=congrArg (λo:Out V=>sL C ss (o.sb λ_ H1=>.ok (.next,σ) H1)) h
theorem xg{f:V->ai->Hp->Out (Fl × ai)}{x:V}{xs:List V}(h:f x σ H = .exc H1):bU f (x::xs) σ H = .exc H1:=by simp only[qb,mx,h,wY]
theorem FF(h:ck prog C e1 σ H = .ok false H1):ck prog C (.and e1 e2) σ H = .ok false H1:=by rw[sY,h];rfl
theorem IP{x:V}{y:List V}{b:Bool}(p:ln x y=some b):aw .notin x (.tup y) H = .ok (.bool !b) H:=congrArg (λo=>optB (Option.map (!·) o) H) p
theorem Dg{o1 o2:pQ}(h:ev prog C e1 σ H = .ok v H1)(h2:ev prog C e2 σ H1 = .ok w H2)(k:aw o1 v w H2 = .ok (.bool false) H2):ck prog C (.cmp2 o1 o2 e1 e2 e3) σ H = .ok false H2:=by
 show((ev prog C e1 σ H).vb _)=_;rw[h];show((ev prog C e2 σ H1).vb _)=_;rw[h2];show((asB (aw o1 v w H2)).vb _)=_;rw[k]
 rfl
theorem FG{tg:Tg}{xs:List V}(h:ev prog C e σ H = .ok v H1)(hx:elems v=some xs)(hl:bU (lp C tg a) xs σ H1 = .exc H2):bA prog C (.cons (.for tg e a) ss) σ H = .exc H2:=IM ((congrArg (wQ C tg a σ) h).trans ((ii hx).trans hl))
theorem FH(h:ev prog C e1 σ H = .ok (.bool false) H1):ev prog C (.and e1 e2) σ H = .ok (.bool false) H1:=by rw[wW,h];rfl
theorem px{n:Nat}{T:Hp}(ha:vs.length=(bH f).arity)(hk:(bH f).keep=false)(hx:bA prog (R n) (bH f).body (vs.map some++dW ((bH f).slots - (bH f).arity)) H = .ok (.ret v,σ') (H1++T))(hl:H1.length=H.length)(hp:(Fl.ret v).plain=true)(hw:Wf H1):R (n+1) f vs H = .ok v H1:=rh ha hk hx hl hp hw
theorem cJ{n:Nat}(ha:vs.length=(bH f).arity)(hk:(bH f).keep=false)(hx:bA prog (R n) (bH f).body (vs.map some++dW ((bH f).slots - (bH f).arity)) H = .ok (.ret v,σ') H1)(hl:H1.length=H.length)(hp:(Fl.ret v).plain=true)(hw:Wf H1):R (n+1) f vs H = .ok v H1:=bz ha hk hx hl hp hw
theorem FJ{n:Nat}{T:Hp}(ha:vs.length=(bH f).arity)(hk:(bH f).keep=false)(hx:bA prog (R n) (bH f).body (vs.map some++dW ((bH f).slots - (bH f).arity)) H = .ok (.next,σ') (H1++T))(hl:H1.length=H.length)(hw:Wf H1):R (n+1) f vs H = .ok .none H1:=rh ha hk hx hl rfl hw
end
theorem f0{n:Nat}{d:List UInt8}{a c:Int}{H:Hp}(hw:Wf H)(ha:0<=a)(h:a+c<=d.length):R (n+1) 0 [.byt d,.int a,.int c] H = .ok .none H:=by
 have h1:¬ (a<0):=by omega
 have h2:¬ ((d.length:Int)<a+c):=by omega
 refine bz (r:=(.next,[some (.byt d),some (.int a),some (.int c)])) rfl rfl (by
  simp[KY,b0,cn,co,h1,h2]) rfl rfl hw
noncomputable def aN(l:List UInt8):Nat:=l.foldl (λt b=>t*256+b.toNat) 0
noncomputable def sl(d:List UInt8)(a c:Int):List UInt8:=(d.take (a+c).toNat).drop a.toNat
theorem Ab(t:Nat)(b:UInt8):(t*256)|||b.toNat=t*256+b.toNat:=by
 have:=Nat.two_pow_add_eq_or_of_lt (i:=8) (b:=b.toNat) b.toNat_lt t;rw[Nat.mul_comm t 256];exact this.symm
theorem IQ{t:Nat}{H:Hp}(hs:small (t:Int)=true):aL .shl (.int t) (.int 8) H = .ok (.int (t*256:Nat)) H:=by
 rw[zX,hs];show guard (true&&decide ((0:Int)<=8)&&decide ((8:Int)<64)) _=_;rw[show(true&&decide ((0:Int)<=8)&&decide ((8:Int)<64))=true by decide,bu];rw[show(2:Int) ^ (8:Int).toNat=256 by decide]
 rfl
theorem IR{t:Nat}{b:UInt8}{H:Hp}:aL .bor (.int (t*256:Nat)) (.int b.toNat) H = .ok (.int (t*256+b.toNat:Nat)) H:=by
 rw[zZ];show guard (decide ((0:Int)<=(t*256:Nat))&&decide ((0:Int)<=(b.toNat:Nat))) _=_;have h1:(0:Int)<=(t*256:Nat):=LQ _;have h2:(0:Int)<=(b.toNat:Nat):=LQ _;simp only[h1,h2,decide_true,Bool.and_self,bu,Int.toNat_natCast,Ab]
theorem nH{d:List UInt8}{a c:Int}{H:Hp}(hd:d.length<=aq)(ha:0<=a)(hc:0<=c)(h:a+c<=d.length):n7 (.byt d) a (a+c) H = .ok (.byt (sl d a c)) H:=
 have g2:a+c<2 ^ 62:=Int.lt_of_le_of_lt (Mt h (LU.mpr hd)) (by decide)
 aU (aT (aT (aT (decide_eq_true ha) (decide_eq_true (Int.lt_of_le_of_lt (Int.le_add_of_nonneg_right hc) g2))) (decide_eq_true (Int.add_nonneg ha hc))) (decide_eq_true g2))
theorem py{t:Nat}(h:t<256 ^ 4):small (t:Int)=true:=by
 have h:t<4294967296:=h;unfold small;have h1 : -(2 ^ 62:Int)<(t:Int):=Int.lt_of_lt_of_le (by decide) (LQ t);have h2:(t:Int)<2 ^ 62:=Int.lt_trans (Mi.mpr h) (by decide);rw[decide_eq_true h1,decide_eq_true h2]
 rfl
theorem Ac{C:Nat->List V->Hp->Out V}{x y z w:Option V}{H:Hp}{t:Nat}{b:UInt8}(hs:small (t:Int)=true):lp C (.one 4) (.cons (.asg 3 (.bin .bor (.bin .shl (.var 3) (.cint 8)) (.var 4))) .nil) (.int b.toNat) [x,y,z,some (.int t),w] H = .ok (.next,[x,y,z,some (.int (t*256+b.toNat:Nat)),some (.int b.toNat)]) H:=by
 simp -implicitDefEqProofs only[w0,iS,iR,di,nt,wV,fh,fq,fm,bQ,ce,sU,IQ hs,IR,dj,nr]
theorem xh{t k:Nat}{b:UInt8}(h:t<256 ^ k):t*256+b.toNat<256 ^ (k+1):=
 L7 (Nat.add_lt_add_left b.toNat_lt _) (Nat.succ_mul t 256▸Nat.mul_le_mul_right 256 h)
theorem Ad{C:Nat->List V->Hp->Out V}{x y z:Option V}{H:Hp}(l:List UInt8):∀(t k:Nat)(w:Option V),t<256 ^ k->l.length+k<=4->
  ∃w',bU (lp C (.one 4) (.cons (.asg 3 (.bin .bor (.bin .shl (.var 3) (.cint 8)) (.var 4))) .nil)) (l.map λb=>.int b.toNat) [x,y,z,some (.int t),w] H = .ok (.next,[x,y,z,some (.int (l.foldl (λt b=>t*256+b.toNat) t:Nat)),w']) H:=by
 induction l with
 |nil=>exact λt k w _ _=>⟨w,rfl⟩
 |cons b r ih=>
  intro t k w h hk;have hk':r.length+(k+1)<=4:=by rw[List.length_cons]at hk;omega
  obtain⟨w',e⟩:=ih (t*256+b.toNat) (k+1) (some (.int b.toNat)) (xh h) hk';refine⟨w',?_⟩;rw[List.map_cons,bR (Ac (py (L7 h (Nat.pow_le_pow_right (Ms _) (by omega)))))];exact e
theorem Bx{d:List UInt8}{a c:Int}(ha:0<=a)(hc:0<=c):(sl d a c).length<=c.toNat:=by
 unfold sl;rw[List.length_drop,Mx,Int.toNat_add ha hc];exact LB (Nat.sub_le_sub_right (Nat.min_le_left _ _) _) (Ma (Nat.add_sub_cancel_left ..))
theorem f1{n:Nat}{d:List UInt8}{a c:Int}{H:Hp}(hw:Wf H)(hd:d.length<=aq)(ha:0<=a)(hc:0<=c)(hc4:c<=4)(h:a+c<=d.length):R (n+2) 1 [.byt d,.int a,.int c] H = .ok (.int (aN (sl d a c))) H:=by
 have hl:(sl d a c).length<=4:=LB (Bx ha hc) (Int.toNat_le.mpr hc4);obtain⟨w',e⟩:=Ad (C:=R (n+1)) (x:=some (.byt d)) (y:=some (.int a)) (z:=some (.int c)) (H:=H) (sl d a c) 0 0 none (by decide) (by omega);have h1:=nH (H:=H) hd ha hc h;refine bz (r:=(.ret (.int (aN (sl d a c))),[some (.byt d),some (.int a),some (.int c),some (.int (aN (sl d a c))),w'])) rfl rfl ?_ rfl rfl hw;simp only[KZ,b1,di,nu,nv,dR,eg,fh,List.map_cons,List.map_nil,cn,co,List.cons_append,List.nil_append,fm,fq,bQ,ce,f0 hw ha h,l9,dj,nt,sU,iS,iR,wU,Fp,wV,zW,sM,h1];rw[ii (xs:=(sl d a c).map λb=>.int b.toNat) rfl];erw[e];simp[aN]
noncomputable def cw(d:List UInt8)(a:Int):O:=.ins 0 [(0,.byt d),(1,.int a)]
theorem Wf.set{H:Hp}{i:Nat}{o:O}(h:Wf H)(t:a8 H.length [o]=true):Wf (au H i o):=by
 show a8 _ _=true;rw[cB];exact uy t h
variable{n:Nat}{d:List UInt8}{a c:Int}{H:Hp}{i:Nat}
theorem f2(hw:Wf H)(hd:d.length<=aq)(ha:0<=a)(h:a+4<=d.length):R (n+3) 2 [.byt d,.int a] H = .ok (.int (aN (sl d a 4))) H:=by
 refine bz (r:=(.ret _,[some (.byt d),some (.int a)])) rfl rfl (by
  simp[K0,b2,cn,co,f1 hw hd ha (show(0:Int)<=4 by decide) (by decide) h]) rfl rfl hw
theorem f4(hw:Wf H)(g:ak H i=some (cw d a))(ha:0<=a)(h:a+c<=d.length):R (n+2) 4 [.obj i,.int c] H = .ok .none H:=by
 refine bz (r:=(.next,[some (.obj i),some (.int c)])) rfl rfl (by
  simp[K2,b4,cn,co,dk g (k:=0) rfl rfl,dk g (k:=1) rfl rfl,f0 hw ha h]) rfl rfl hw
theorem f5(hw:Wf H)(g:ak H i=some (cw d a))(hd:d.length<=aq)(ha:0<=a)(hc:0<=c)(hc4:c<=4)(h:a+c<=d.length) :
  R (n+3) 5 [.obj i,.int c] H = .ok (.int (aN (sl d a c))) (au H i (cw d (a+c))):=by
 refine bz (r:=(.ret (.int (aN (sl d a c))),[some (.obj i),some (.int c),some (.int (aN (sl d a c)))])) rfl rfl (by
  simp[K3,b5,cn,co,dk g (k:=0) rfl rfl,dk g (k:=1) rfl rfl,f1 hw hd ha hc hc4 h,cv g (k:=1) rfl (by simp),jI,jJ]
  rfl) (cB _ _ _) rfl (hw.set rfl)
theorem f6(hw:Wf H)(g:ak H i=some (cw d a))(hd:d.length<=aq)(ha:0<=a)(h:a+2<=d.length) :
  R (n+4) 6 [.obj i] H = .ok (.int (aN (sl d a 2))) (au H i (cw d (a+2))):=by
 have hi:jd (bv 5) (.obj i) H=true:=ej g rfl
 refine bz (r:=(.ret (.int (aN (sl d a 2))),[some (.obj i)])) rfl rfl (by
  simp[K4,b6,cn,co,hi,f5 hw g hd ha (show(0:Int)<=2 by decide) (by decide) h]) (cB _ _ _) rfl (hw.set rfl)
theorem f7(hw:Wf H)(g:ak H i=some (cw d a))(hd:d.length<=aq)(ha:0<=a)(h:a+4<=d.length) :
  R (n+4) 7 [.obj i] H = .ok (.int (aN (sl d a 4))) (au H i (cw d (a+4))):=by
 have hi:jd (bv 5) (.obj i) H=true:=ej g rfl
 refine bz (r:=(.ret (.int (aN (sl d a 4))),[some (.obj i)])) rfl rfl (by
  simp[K5,b7,cn,co,hi,f5 hw g hd ha (show(0:Int)<=4 by decide) (by decide) h]) (cB _ _ _) rfl (hw.set rfl)
noncomputable def kC(d:List UInt8)(a:Int):List Nat:=(sl d a 4).map (·.toNat)
theorem pz(l:List Nat):joinS (l.map λc=>.str [c])=some l:=by
 induction l with
 |nil=>rfl
 |cons c r ih=>exact congrArg (Option.map ([c]++·)) ih
theorem f8(hw:Wf H)(g:ak H i=some (cw d a))(hd:d.length<=aq)(ha:0<=a)(h:a+4<=d.length) :
  R (n+3) 8 [.obj i] H = .ok (.str (kC d a)) (au H i (cw d (a+4))):=by
 have hi:jd (bv 4) (.obj i) H=true:=ej g rfl;have hl:(kC d a).length<=aq:=LB (Ma (LF _)) (LB (Bx ha (by decide)) (by decide))
 have hc:aE (cp (R (n+2)) (.b1 .chr (.var 2)) (.one 2) [some (.obj i),some (.byt (sl d a 4)),none]) ((sl d a 4).map λb=>.int b.toNat) (au H i (cw d (a+4))) = .ok ((sl d a 4).map λb=>.str [b.toNat]) (au H i (cw d (a+4))):=
  aQ λb _=>⟨by simp[Dc],rfl⟩
 have hj:joinS ((sl d a 4).map λb=>V.str [b.toNat])=some (kC d a):=by
  have:=pz (kC d a);unfold kC at this ⊢;rw[L5]at this;exact this
 refine bz (r:=(.ret (.str (kC d a)),[some (.obj i),some (.byt (sl d a 4)),none])) rfl rfl ?_ (cB _ _ _) rfl (hw.set rfl);simp[K6,b8,cn,co,hi,f4 hw g ha h,dk g (k:=0) rfl rfl,dk g (k:=1) rfl rfl,nH hd ha (show(0:Int)<=4 by decide) h,cv g (k:=1) rfl (by simp),jI,jJ];erw[fj (xs:=(sl d a 4).map λb=>.int b.toNat) rfl hc];simp[mk,hj,hl]
end J.Internal
namespace J.Internal
theorem dS:∀{H:Hp}{i:Nat}{o p:O},ak H i=some o->ak (au H i p) i=some p
 |_::_,0,_,_,_=>rfl
 |_::r,i+1,_,_,h=>dS (H:=r) h
theorem kE:∀{H:Hp}{i:Nat}{p q:O},au (au H i p) i q=au H i q
 |[],_,_,_=>rfl
 |_::_,0,_,_=>rfl
 |x::r,i+1,p,q=>congrArg (x::·) (kE (H:=r))
variable{n:Nat}{d:List UInt8}{a c:Int}{H:Hp}{i:Nat}
theorem f3(hw:Wf H)(g:ak H i=some (.ins 0 [])):R (n+1) 3 [.obj i,.byt d,.int a] H = .ok .none (au H i (cw d a)):=by
 have g2:ak (au H i (.ins 0 [(0,.byt d)])) i=some (.ins 0 [(0,.byt d)]):=dS g
 refine bz (r:=(.next,[some (.obj i),some (.byt d),some (.int a)])) rfl rfl (by
  simp[K1,b3,cn,co,cv g (k:=0) rfl (by simp),jI,jJ,cv g2 (k:=1) rfl (by simp),kE]
  rfl) (cB _ _ _) rfl (hw.set rfl)
theorem Dh(hw:Wf H):eS prog (R (n+1)) 0 [.byt d,.int a] H = .ok (.obj H.length) (H++[cw d a]):=by
 have h:=f3 (n:=n) (d:=d) (a:=a) (i:=H.length) (hw.app (T:=[.ins 0 []]) rfl) (by rw[aS];rfl);rw[bj]at h;have g:ak (H++[cw d a]) H.length=some (.ins 0 [(0,.byt d),(1,.int a)]):=by rw[aS];rfl
 exact nw h g
noncomputable def uz(tag:List Nat)(t b l w:Int):V:=.rcd 2 [(3,.str tag),(4,.int t),(5,.int b),(6,.int l),(7,.int w)]
theorem K9{tag:List Nat}{t b l w:Int}(hw:Wf H)(g:ak H i=some (.ins 2 [])):R (n+1) 18 [.obj i,.str tag,.int t,.int b,.int l,.int w] H = .ok .none (au H i (.ins 2 [(3,.str tag),(4,.int t),(5,.int b),(6,.int l),(7,.int w)])):=by
 have g1:ak (au H i (.ins 2 [(3,.str tag)])) i=some (.ins 2 [(3,.str tag)]):=dS g;have g2:ak (au H i (.ins 2 [(3,.str tag),(4,.int t)])) i=some (.ins 2 [(3,.str tag),(4,.int t)]):=dS g;have g3:ak (au H i (.ins 2 [(3,.str tag),(4,.int t),(5,.int b)])) i=some (.ins 2 [(3,.str tag),(4,.int t),(5,.int b)]):=dS g;have g4:ak (au H i (.ins 2 [(3,.str tag),(4,.int t),(5,.int b),(6,.int l)])) i=some (.ins 2 [(3,.str tag),(4,.int t),(5,.int b),(6,.int l)]):=dS g
 refine bz (r:=(.next,[some (.obj i),some (.str tag),some (.int t),some (.int b),some (.int l),some (.int w)])) rfl rfl (by
  simp[H8,G3,cn,co,cv g (k:=3) rfl (by simp),jI,jJ,cv g1 (k:=4) rfl (by simp),cv g2 (k:=5) rfl (by simp),cv g3 (k:=6) rfl (by simp),cv g4 (k:=7) rfl (by simp),kE]) (cB _ _ _) rfl (hw.set rfl)
theorem Di{tag:List Nat}{t b l w:Int}(hw:Wf H):eS prog (R (n+1)) 2 [.str tag,.int t,.int b,.int l,.int w] H = .ok (uz tag t b l w) H:=by
 have h:=K9 (n:=n) (tag:=tag) (t:=t) (b:=b) (l:=l) (w:=w) (i:=H.length) (hw.app (T:=[.ins 2 []]) rfl) (by rw[aS];rfl);rw[bj]at h;have g:ak (H++[.ins 2 [(3,.str tag),(4,.int t),(5,.int b),(6,.int l),(7,.int w)]]) H.length=some (.ins 2 [(3,.str tag),(4,.int t),(5,.int b),(6,.int l),(7,.int w)]):=by rw[aS];rfl
 refine(nw h g).trans ?_;show guard (true&&a8 H.length ((H++[_]).take H.length)) (.ok (uz tag t b l w) ((H++[_]).take H.length))=_;rw[wM];exact aU hw
theorem Dk{x:Int}(hw:Wf H):Wf (H++[cw d x]):=hw.app rfl
theorem La{w:Int}(hw:Wf H)(hd:d.length<=aq)(ha:0<=w)(h:w+16<=d.length) :
  R (n+5) 21 [.byt d,.int w] H = .ok (uz (kC d w) (aN (sl d (w+4) 4)) (aN (sl d (w+8) 4)) (aN (sl d (w+12) 4)) w) H:=by
 have hi0:∀x,ak (H++[cw d x]) H.length=some (cw d x):=λx=>by rw[aS];rfl
 have hi8:∀x,jd (bv 8) (.obj H.length) (H++[cw d x])=true:=λx=>ej (hi0 x) rfl;have hi7:∀x,jd (bv 7) (.obj H.length) (H++[cw d x])=true:=λx=>ej (hi0 x) rfl;have k4:w+4+4+4+4<=d.length:=by rw[Int.add_assoc,Int.add_assoc,Int.add_assoc];exact h
 have up:∀{x:Int},0<=x->0<=x+4:=λh=>Int.add_nonneg h (by decide);have dn:∀{x:Int},x+4<=d.length->x<=d.length:=λh=>Mt (Int.le_add_of_nonneg_right (by decide)) h;have e8:=f8 (n:=n+1) (Dk (d:=d) (x:=w) hw) (hi0 w) hd ha (dn (dn (dn k4)));have e4:=f7 (n:=n) (Dk (d:=d) (x:=w+4) hw) (hi0 _) hd (up ha) (dn (dn k4));have e5:=f7 (n:=n) (Dk (d:=d) (x:=w+4+4) hw) (hi0 _) hd (up (up ha)) (dn k4);have e6:=f7 (n:=n) (Dk (d:=d) (x:=w+4+4+4) hw) (hi0 _) hd (up (up (up ha))) k4;rw[bj]at e8 e4 e5 e6;rw[nz]at e8 e4 e5 e6;have en:=Di (n:=n+3) (tag:=kC d w) (t:=aN (sl d (w+4) 4)) (b:=aN (sl d (w+4+4) 4)) (l:=aN (sl d (w+4+4+4) 4)) (w:=w) (Dk (d:=d) (x:=w+4+4+4+4) hw);rw[show w+8=w+4+4 from(Int.add_assoc w 4 4).symm,show w+12=w+4+4+4 by rw[Int.add_assoc,Int.add_assoc];rfl]
 refine rh (r:=(.ret (uz (kC d w) (aN (sl d (w+4) 4)) (aN (sl d (w+4+4) 4)) (aN (sl d (w+4+4+4) 4)) w),_)) (T:=[cw d (w+4+4+4+4)]) rfl rfl (by
  simp only[Ia,G4,cn,co,List.map_cons,List.map_nil,List.cons_append,List.nil_append,di,nr,dj,sO,nt,wS,wX,dR,eg,fh,fq,fm,bQ,ce,l9,Dh (n:=n+3) hw,iS,iR,ij,hi8,hi7,bu,e8,e4,e5,e6,en]
  rfl) rfl rfl hw
theorem IS{tag:List Nat}{t b l w:Int}(hw:Wf H):R (n+1) 19 [uz tag t b l w] H = .ok (.int (b+l)) H:=cJ rfl rfl (sR rfl) rfl rfl hw
theorem IT{k:Int}(hw:Wf H):R (n+1) 20 [.int k] H = .ok (.int (12+16*k)) H:=cJ rfl rfl (sR (bn rfl (bn rfl rfl (pw (by decide))) rfl)) rfl rfl hw
theorem nJ{tag:List Nat}{t b l w:Int}:aX (uz tag t b l w) 3 H = .ok (.str tag) H:=fv rfl rfl
theorem Dl{tag:List Nat}{t b l w:Int}:aX (uz tag t b l w) 4 H = .ok (.int t) H:=fv rfl rfl
theorem rA{tag:List Nat}{t b l w:Int}:aX (uz tag t b l w) 5 H = .ok (.int b) H:=fv rfl rfl
theorem xi{tag:List Nat}{t b l w:Int}:aX (uz tag t b l w) 6 H = .ok (.int l) H:=fv rfl rfl
theorem FK{tag:List Nat}{t b l w:Int}:aX (uz tag t b l w) 7 H = .ok (.int w) H:=fv rfl rfl
structure Rc where
 tag:List Nat
 t:Int
 b:Int
 l:Int
 w:Int
noncomputable def Rc.v(r:Rc):V:=uz r.tag r.t r.b r.l r.w
theorem Ae{α:Type}{f:V->ai->Hp->Out (Fl × ai)}{g:α->V}(S:List α->ai->Hp->Prop)(l:List α)
  (hs:∀pre x post,l=pre++x::post->∀σ H,S pre σ H->∃σ' H',f (g x) σ H = .ok (.next,σ') H'/\S (pre++[x]) σ' H') :
  ∀pre post,l=pre++post->∀σ H,S pre σ H->∃σ' H',bU f (post.map g) σ H = .ok (.next,σ') H'/\S l σ' H':=by
 intro pre post
 induction post generalizing pre with
 |nil=>intro e σ H h;rw[LW]at e;subst e;exact⟨σ,H,rfl,h⟩
 |cons x r ih=>
  intro e σ H h;obtain⟨σ1,H1,h1,h2⟩:=hs pre x r e σ H h;obtain⟨σ2,H2,h3,h4⟩:=ih (pre++[x]) (by rw[LG];exact e) σ1 H1 h2;exact⟨σ2,H2,by rw[List.map_cons,bR h1,h3],h4⟩
theorem dl{α:Type}{f:V->ai->Hp->Out (Fl × ai)}{g:α->V}(S:List α->ai->Hp->Prop)(l:List α){σ:ai}{H:Hp}(h0:S [] σ H)
  (hs:∀pre x post,l=pre++x::post->∀σ H,S pre σ H->∃σ' H',f (g x) σ H = .ok (.next,σ') H'/\S (pre++[x]) σ' H') :
  ∃σ' H',bU f (l.map g) σ H = .ok (.next,σ') H'/\S l σ' H':=Ae S l hs [] l rfl σ H h0
theorem jw(lo step:Int):∀(n:Nat),jb lo step n=(List.range n).map λk:Nat=>V.int (lo+(k:Int)*step):=by
 intro n
 induction n generalizing lo with
 |zero=>rfl
 |succ n ih=>
  rw[List.range_succ_eq_map,List.map_cons,L5];show V.int lo::jb (lo+step) step n=_;rw[ih];congr 1
  ·simp
  ·refine List.map_congr_left λk _=>?_;simp only[Function.comp_apply];congr 1;rw[show((k+1:Nat):Int)=(k:Int)+1 by lia,Int.add_mul];lia
theorem rngN_up{lo hi:Int}:cy lo hi 1=(hi - lo).toNat:=by
 unfold cy;rw[if_pos (by decide)]
 split
 ·rw[Int.ediv_one];lia
 ·omega
theorem FL{xs:List V}{k:Int}(h0:0<=k)(h:k<xs.length)(hl:xs.length<=aq):eR xs k=xs[k.toNat]?:=by
 unfold eR;have:(xs.length:Int)<=1000000:=by unfold aq at hl;omega
 rw[if_pos h0,if_pos (by omega)]
theorem ew{xs:List V}{k:Nat}{v:V}(h:xs[k]? = some v)(hl:xs.length<=aq):eR xs (k:Int)=some v:=
 (FL (LQ k) (Mi.mpr (LE.mp h).1) hl).trans h
theorem kF{m x:Nat}{pre post:List Nat}(h:List.range m=pre++x::post):pre.length<=m:=by
 have:=congrArg List.length h;rw[Mk,LC]at this;exact this▸L6 _ _
theorem cC{m x:Nat}{pre post:List Nat}(h:List.range m=pre++x::post):x=pre.length/\pre=List.range pre.length/\x<m:=by
 have hl:pre.length<m:=by have:=congrArg List.length h;rw[Mk,LC]at this;exact this▸Nat.lt_add_of_pos_right (Ms _)
 have h1:(List.range m)[pre.length]? = some x:=by rw[h];simp
 rw[List.getElem?_range hl]at h1;have hx:pre.length=x:=LM h1;refine⟨hx.symm,?_,hx▸hl⟩;have:=congrArg (List.take pre.length) h;rw[List.take_range,List.take_left,My (Mu hl)]at this;exact this.symm
theorem pA{m:Nat}(h:m<=aq):bW [.int m] H = .ok (.rng 0 1 m) H:=by
 have hL:(m:Int)<=1000000:=by unfold aq at h;omega
 have h0:(0:Int)<=m:=LQ m
 have hs:small (m:Int)=true:=by
  unfold small;rw[decide_eq_true (Int.lt_of_lt_of_le (by decide) h0),decide_eq_true (Int.lt_of_le_of_lt hL (by decide))]
  rfl
 delta bW
 rw[C7,sM,aU (aT hs (decide_eq_true hL)),rngN_up,Int.sub_zero,Int.toNat_natCast]
theorem bS{m:Nat}:elems (.rng 0 1 m)=some ((List.range m).map λk:Nat=>V.int k):=by
 show some (jb 0 1 m)=_;rw[jw];congr 1;refine List.map_congr_left λk _=>?_;congr 1;lia
theorem Af(k:Nat):aL .sub (.int (k+1:Nat)) (.int 1) H = .ok (.int k) H:=congrArg (λi=>Out.ok (V.int i) H) (Int.add_sub_cancel (k:Int) 1)
theorem xj{rs:List Rc}{r:Rc}{size:Int}{k:Nat}{x y:Option V}(hw:Wf H)(hl:rs.length<=aq)(hk:rs[k]? = some r)(asc:∀j q,k=j+1->rs[j]? = some q->iA q.tag r.tag=true)(hend:r.b+r.l<=size) :
  lp (R (n+1)) (.one 2) BL (.int k) [some (.lst (rs.map Rc.v)),some (.int size),x,y] H = .ok (.next,[some (.lst (rs.map Rc.v)),some (.int size),some (.int k),some r.v]) H:=by
 have ht:∀{j:Nat}{u:Rc},rs[j]? = some u->eR (rs.map Rc.v) (j:Int)=some u.v:=λh=>ew (Ml.trans (congrArg (Option.map Rc.v) h)) (by rw[LF];exact hl)
 have ho:∃c,c=false/\ck prog (R (n+1)) (.and (.cmp .gt (.var 2) (.cint 0)) (.cmp .ge (.attr (.sub (.var 0) (.bin .sub (.var 2) (.cint 1))) 3) (.attr (.var 3) 3))) [some (.lst (rs.map Rc.v)),some (.int size),some (.int k),some r.v] H = .ok c H:=by
  cases k with
  |zero=>exact⟨false,rfl,FF rfl⟩
  |succ j=>
   have hq:=LH (Nat.lt_of_succ_lt (LE.mp hk).1);exact⟨_,by rw[asc j _ rfl hq];exact Bool.and_false _,Bw (bM rfl rfl rfl) (bM (il (ci rfl (bn rfl rfl (Af j)) (nG (ht hq))) nJ) (il rfl nJ) rfl)⟩
 obtain⟨c,hc,e⟩:=ho;exact sA (ci rfl rfl (nG (ht hk))) (sF e hc (sF (bM (dA rfl rfl rfl (IS (n:=n) hw)) rfl (De (decide_eq_false (Int.not_lt.mpr hend)))) rfl rfl))
theorem Lb{rs:List Rc}{size:Int}(hw:Wf H)(hl:rs.length<=aq)(asc:∀j,(h:j+1<rs.length)->iA (rs[j]'(by omega)).tag rs[j+1].tag=true)(hend:∀r∈rs,r.b+r.l<=size) :
  R (n+2) 22 [.lst (rs.map Rc.v),.int size] H = .ok .none H:=by
 obtain⟨σ',H',e,hS,x,y,hσ⟩:=dl (f:=lp (R (n+1)) (.one 2) BL) (g:=λk:Nat=>V.int k) (λ_ σ H'=>H'=H/\∃x y,σ=[some (.lst (rs.map Rc.v)),some (.int size),x,y]) (List.range rs.length)
  (σ:=[some (.lst (rs.map Rc.v)),some (.int size),none,none]) (H:=H) ⟨rfl,_,_,rfl⟩ λpre x post he σ H1 ⟨hH,p,q,hσ⟩=>by
   subst hH;subst hσ;have hk:=(cC he).2.2;refine⟨_,_,xj hw hl (LH hk) (λj q hj hq=>?_) (hend _ (List.getElem_mem hk)),rfl,_,_,rfl⟩;subst hj;obtain⟨_,rfl⟩:=LE.mp hq;exact asc j hk
 subst hS;have hr:bW [.int ((rs.map Rc.v).length:Nat)] H' = .ok (.rng 0 1 rs.length) H':=by rw[LF];exact pA hl
 exact bz (r:=(.next,σ')) rfl rfl (lG (ji rfl hr) bS e rfl) rfl rfl hw
structure Iv where
 a:Int
 b:Int
 c:Int
noncomputable def Iv.l(x:Iv):List Int:=[x.a,x.b,x.c]
noncomputable def Iv.v(x:Iv):V:=.tup [.int x.a,.int x.b,.int x.c]
noncomputable def Rc.iv(r:Rc):Iv:=⟨r.b,r.b+r.l,r.w⟩
noncomputable def pB(x y:Iv):Bool:=pY x.l y.l
theorem IU(x y:Iv):D2 x.v y.v=pB x y:=rS x.l y.l
theorem Dm{x y:Iv}(h:pB y x=false):x.a<=y.a:=by
 unfold pB pY Iv.l at h;simp only[decide_eq_false_iff_not,List.not_lt]at h;have:=h
 by_cases w:x.a<=y.a
 ·exact w
 ·exfalso;have h2:[y.a,y.b,y.c] < [x.a,x.b,x.c]:=List.cons_lt_cons_iff.mpr (.inl (by omega));exact(MA.mpr h) h2
def Dj(x y:Iv):Prop:=x.b<=y.a\/y.b<=x.a
def Rnd(ts:List Iv):Prop:=ts.Pairwise Dj/\∀x∈ts,x.a<x.b
theorem Dj.symm{x y:Iv}(h:Dj x y):Dj y x:=Or.symm h
theorem Rnd.perm{ts us:List Iv}(h:Rnd ts)(p:us.Perm ts):Rnd us:=⟨(p.pairwise_iff (λh=>Dj.symm h)).mpr h.1,λx hx=>h.2 x (p.mem_iff.mp hx)⟩
theorem xl:∀{ts:List Iv},Rnd ts->jG (ts.map Iv.v)=true:=by
 intro ts
 induction ts with
 |nil=>
  intro _;exact rfl
 |cons x r ih=>
  rintro⟨h1,h2⟩;have hp:=Mq.mp h1;have ih:=ih ⟨hp.2,λy hy=>h2 y (LK _ hy)⟩;rw[show jG ((x::r).map Iv.v)=((r.map Iv.v).all (rO x.v)&&jG (r.map Iv.v))from rfl,ih];simp only[Bool.and_true,List.all_map,List.all_eq_true];intro y hy;have hxy:=hp.1 y hy;have hx:=h2 x LL;have hy':=h2 y (LK _ hy);show(x.a != y.a)=true;rw[bne_iff_ne];rcases hxy with w|w<;>omega
theorem uA(ts:List Iv):mu (ts.map Iv.v)=true:=by
 induction ts with
 |nil=>rfl
 |cons x r ih=>exact ih
theorem Dn(ts:List Iv):iX D2 (ts.map Iv.v) []=(iX pB ts []).map Iv.v:=rQ (f:=Iv.v) IU ts []
theorem xm{ts:List Iv}(h:Rnd ts){k:Nat}{u v:Iv}(h1:(iX pB ts [])[k]? = some u)(h2:(iX pB ts [])[k+1]? = some v):u.b<=v.a:=by
 obtain⟨i1,rfl⟩:=LE.mp h1;obtain⟨i2,rfl⟩:=LE.mp h2;have hp:(iX pB ts []).Perm ts:=by simpa using eU (lt:=pB) ts []
 have hr:=h.perm hp;have s1:=Dm (List.pairwise_iff_getElem.mp (gq (lt:=pB) (λa b h=>u5 _ _ h) (λa b c h1 h2=>u6 _ _ _ h1 h2) ts [] List.Pairwise.nil) k (k+1) i1 i2 (Nat.lt_succ_self k));exact(List.pairwise_iff_getElem.mp hr.1 k (k+1) i1 i2 (Nat.lt_succ_self k)).elim id λw=>absurd (Int.lt_of_lt_of_le (hr.2 _ (List.getElem_mem i2)) (Mt w s1)) (Int.lt_irrefl _)
theorem xn{us:List Iv}{k:Nat}{u v:Iv}{w x y z q:Option V}(hl:us.length<=aq)(h1:us[k]? = some u)(h2:us[k+1]? = some v)(hn:u.b<=v.a) :
  lp (R (n+1)) (.one 5) G5 (.int (k+1:Nat)) [w,x,y,some (.lst (us.map Iv.v)),z,q] H = .ok (.next,[w,x,y,some (.lst (us.map Iv.v)),z,some (.int (k+1:Nat))]) H:=by
 have ht:∀{j:Nat}{u:Iv},us[j]? = some u->eR (us.map Iv.v) (j:Int)=some u.v:=λh=>ew (Ml.trans (congrArg (Option.map Iv.v) h)) (by rw[LF];exact hl);exact sF (bM (ci (ci rfl rfl (nG (ht h2))) rfl rfl) (ci (ci rfl (bn rfl rfl (congrArg (λi=>Out.ok (V.int i) H) (Int.add_sub_cancel (k:Int) 1))) (nG (ht h1))) rfl rfl) (De (decide_eq_false (Int.not_lt.mpr hn)))) rfl rfl
theorem Do{lo hi:Int}:bW [.int lo,.int hi] H=guard (small lo&&small hi&&decide (cy lo hi 1<=1000000)) (.ok (.rng lo 1 (cy lo hi 1)) H):=rfl
theorem xo{lo hi st:Int}:bW [.int lo,.int hi,.int st] H=guard (small lo&&small hi&&small st&&decide (st≠0)&&decide (cy lo hi st<=1000000)) (.ok (.rng lo st (cy lo hi st)) H):=rfl
theorem IV{m:Nat}(h:m<=aq)(h1:1<=m):bW [.int 1,.int m] H = .ok (.rng 1 1 (m - 1)) H:=by
 have hs:small (m:Int)=true:=by
  unfold small;rw[decide_eq_true (Int.lt_of_lt_of_le (by decide) (LQ m)),decide_eq_true (Int.lt_of_le_of_lt (LU.mpr h) (by decide))]
  rfl
 have hr:cy 1 m 1=m - 1:=rngN_up.trans (Int.toNat_sub m 1);rw[Do,hs,hr,show small 1=true by decide];exact aU (decide_eq_true (LB (Nat.sub_le m 1) h))
theorem rB{m:Nat}:elems (.rng 1 1 m)=some ((List.range m).map λk:Nat=>V.int (k+1:Nat)):=by
 show some (jb 1 1 m)=_;rw[jw];congr 1;refine List.map_congr_left λk _=>?_;congr 1;omega
theorem ey{α:Type}{f:V->Hp->Out (Option V)}{H:Hp}{g:α->V}{k:α->V}{p:α->Bool}:∀{l:List α},(∀x∈l,f (g x) H = .ok (if p x then some (k x)else none) H/\(k x).isObj=false)->aE f (l.map g) H = .ok ((l.filter p).map k) H:=by
 intro l
 induction l with
 |nil=>
  intro _;exact rfl
 |cons x r ih=>
  intro h;obtain⟨h1,h2⟩:=h x LL;have ih:=ih λy hy=>h y (LK _ hy)
  by_cases hp:p x=true
  ·rw[if_pos hp]at h1;rw[List.filter_cons_of_pos hp];simp only[List.map_cons,jj,gG,h1,ce,ih,h2,Bool.not_false,bu]
  ·rw[if_neg hp]at h1;rw[List.filter_cons_of_neg hp];simp only[List.map_cons,jj,gG,h1,ce,ih]
noncomputable def iT(rs:List Rc):List Iv:=(rs.filter λr=>decide (0<r.l)).map Rc.iv
theorem xp{rs:List Rc}{x y z w q:Option V}(hw:Wf H):ev prog (R (n+1)) Jf [some (.lst (rs.map Rc.v)),x,y,z,w,q] H = .ok (.obj H.length) (H++[.lst ((iT rs).map Iv.v)]):=by
 have hc:aE (Bu (R (n+1)) (.tup (.cons (.attr (.var 4) 5) (.cons (.meth 19 (.var 4) .nil) (.cons (.attr (.var 4) 7) .nil)))) (.one 4) (.cmp .gt (.attr (.var 4) 6) (.cint 0)) [some (.lst (rs.map Rc.v)),x,y,z,w,q]) (rs.map Rc.v) H = .ok ((rs.filter λr=>decide (0<r.l)).map λr=>r.iv.v) H:=
  ey λr _=>⟨xf (bM (il rfl xi) rfl rfl) (xb (aC (il rfl rA) (aC (dA rfl rfl rfl (IS (n:=n) hw)) (a1 (il rfl FK)))) rfl),rfl⟩
 exact(fj (own:=true) (v:=.lst (rs.map Rc.v)) rfl hc).trans (by unfold iT;rw[L5];rfl)
end J.Internal
namespace J.Internal
noncomputable section
def tb(n:Nat)(H:Hp)(rs:List Rc)(bg:Int)(bh:Int):Prop:=
 ∀(hw:Wf H)(hr:Rnd (iT rs++[⟨bg,bh,bg⟩]))(hl:(iT rs).length<60),R (n+2) 23 [.lst (rs.map Rc.v),.int bg,.int bh] H = .ok .none H
namespace Kf23
def z:=ep (V5 tb)
def n:=z.1
def H:=z.2.1
def rs:=z.2.2.1
def bg:=z.2.2.2.1
def bh:=z.2.2.2.2
theorem T:tb n H rs bg bh:=by
 intro hw hr hl;have hL:=xp (n:=n) (H:=H) (rs:=rs) (x:=some (.int bg)) (y:=some (.int bh)) (z:=none) (w:=none) (q:=none) hw;have hle:(iT rs++[(⟨bg,bh,bg⟩ : Iv)]).length=(iT rs).length+1:=LC
 have hap:cj (.obj H.length) (.tup [.int bg,.int bh,.int bg]) (H++[.lst ((iT rs).map Iv.v)]) = .ok .none (H++[.lst ((iT rs++[(⟨bg,bh,bg⟩ : Iv)]).map Iv.v)]):=
  fu (by rw[aS];rfl) rfl (by rw[LF];exact Nat.lt_trans hl (by decide)) (by rw[bj,Mh];rfl)
 generalize iT rs++[(⟨bg,bh,bg⟩ : Iv)]=ts at *;have hlen:ts.length<=60:=hle▸hl;have hlu:(iX pB ts []).length=ts.length:=by simpa using(eU (lt:=pB) ts []).length_eq
 have hlL:(iX pB ts []).length<=aq:=hlu▸LB hlen (by decide);obtain⟨σ',H',e,hS,q,hσ⟩:=dl (f:=lp (R (n+1)) (.one 5) G5) (g:=λk:Nat=>V.int (k+1:Nat)) (λ_ σ H'=>H'=H++[.dead]/\∃q,σ=[some (.lst (rs.map Rc.v)),some (.int bg),some (.int bh),some (.lst ((iX pB ts []).map Iv.v)),none,q]) (List.range (ts.length - 1))
  (σ:=[some (.lst (rs.map Rc.v)),some (.int bg),some (.int bh),some (.lst ((iX pB ts []).map Iv.v)),none,none]) (H:=H++[.dead]) ⟨rfl,_,rfl⟩ λpre x post he σ H1 ⟨hH,q,hσ⟩=>by
   subst hH;subst hσ;have hx:x+1<(iX pB ts []).length:=hlu▸Nat.add_lt_of_lt_sub (cC he).2.2;have g1:=LH (Nat.lt_of_succ_lt hx);have g2:=LH hx;exact⟨_,_,xn hlL g1 g2 (xm hr g1 g2),rfl,_,rfl⟩
 subst hS;subst hσ;have h2:(ts.map Iv.v).length<64:=by rw[LF];exact LN hlen (by decide)
 have hso:bG .sorted (.lst (ts.map Iv.v)) (H++[.dead]) = .ok (.lst ((iX pB ts []).map Iv.v)) (H++[.dead]):=
  (aU (aT (aT (uA _) (xl hr)) (decide_eq_true h2))).trans (congrArg (λl=>Out.ok (V.lst l) (H++[.dead])) (Dn _))
 have hrg:bW [.int 1,.int ((iX pB ts []).map Iv.v).length] (H++[.dead]) = .ok (.rng 1 1 (ts.length - 1)) (H++[.dead]):=by
  rw[LF,hlu];exact IV (hlu▸hlL) (hle▸Ms _)
 exact FJ (T:=[.dead]) rfl rfl (sA hL (sX (pv rfl (kA (by rw[aS];rfl)) rfl hap) (sA (n0 (rk rfl (fQ (by rw[aS];rfl) (by rw[bj];rfl))) hso) (lG (ji (aC rfl (a1 rfl)) hrg) rB e rfl)))) rfl hw
end Kf23
end
theorem Lc{n H rs bg bh}:tb n H rs bg bh:=cN (p:=V5 tb) Kf23.T (n,H,rs,bg,bh)
variable{n:Nat}{d:List UInt8}{a c:Int}{H:Hp}
noncomputable def cK(d:List UInt8)(bg:Int):Nat:=aN (sl d (bg+4) 2)
noncomputable def D0(d:List UInt8)(w:Int):Rc:=⟨kC d w,aN (sl d (w+4) 4),aN (sl d (w+8) 4),aN (sl d (w+12) 4),w⟩
noncomputable def cf(d:List UInt8)(bg:Int):List Rc:=(List.range (cK d bg)).map λk:Nat=>D0 d (bg+12+k*16)
def ma(v:Nat):Prop:=v=65536\/v=1330926671\/v=1953658213
structure RdOk(d:List UInt8)(bg:Int):Prop where
 nn:0<=bg
 len:d.length<=aq
 room:bg+(12+16*(cK d bg:Int))<=d.length
 ver:ma (aN (sl d bg 4))
 asc:∀j,(h:j+1<(cf d bg).length)->iA ((cf d bg)[j]'(by omega)).tag (cf d bg)[j+1].tag=true
 fin:∀r∈cf d bg,r.b+r.l<=d.length
 rnd:Rnd (iT (cf d bg)++[⟨bg,bg+(12+16*(cK d bg:Int)),bg⟩])
 few:cK d bg<60
theorem iU{x:Int}(h0:0<=x)(h:x<=1000000):small x=true:=by
 unfold small;rw[decide_eq_true (Int.lt_of_lt_of_le (by decide) h0),decide_eq_true (Int.lt_of_le_of_lt h (by decide))]
 rfl
theorem pC{lo:Int}{c m:Nat}(h:0<c):cy lo (lo+(c:Int)*m) c=m:=by
 have hc:(0:Int)<c:=Mi.mpr h;unfold cy;rw[if_pos hc]
 cases m with
 |zero=>exact if_neg (by rw[Int.natCast_zero,Int.mul_zero,Int.add_zero];exact Int.lt_irrefl _)
 |succ m=>
  rw[if_pos (Int.lt_add_of_pos_right _ (Int.mul_pos hc (Mi.mpr (Ms m)))),show lo+(c:Int)*((m+1:Nat):Int) - lo - 1=(c:Int) - 1+(c:Int)*m by
   rw[Int.add_comm lo,Int.add_sub_cancel,Int.natCast_succ,Int.mul_add,Int.mul_one,Int.add_sub_assoc,Int.add_comm],
   Int.add_mul_ediv_left _ _ (Int.ne_of_gt hc),Int.ediv_eq_zero_of_lt (Int.le_sub_one_of_lt hc) (Int.sub_lt_self _ (by decide)),Int.zero_add]
  exact Int.toNat_natCast (m+1)
theorem FM{lo:Int}{m:Nat}(h0:0<=lo)(h:lo+16*m<=1000000):bW [.int lo,.int (lo+16*m),.int 16] H = .ok (.rng lo 16 m) H:=by
 have hr:cy lo (lo+16*m) 16=m:=pC (c:=16) (by decide);have hm:(0:Int)<=16*(m:Int):=LQ (16*m);have h2:m<=1000000:=LB (Nat.le_mul_of_pos_left m (by decide:0<16)) (LU.mp (Mt (Int.le_add_of_nonneg_left h0) h));rw[xo,hr,iU h0 (Mt (Int.le_add_of_nonneg_right hm) h),iU (x:=lo+16*m) (Int.add_nonneg h0 hm) h];exact aU (decide_eq_true h2)
theorem Ag{v:Nat}(h:ma v):ln (.int v) [.int 65536,.int 1330926671,.int 1953658213]=some true:=by
 rcases h with rfl|rfl|rfl<;>rfl
theorem rdRs_len{bg:Int}:(cf d bg).length=cK d bg:=by simp[cf]
theorem JC{bg:Int}(hw:Wf H)(o:RdOk d bg):R (n+6) 24 [.byt d,.int bg] H = .ok (.tup [.int (aN (sl d bg 4)),.lst ((cf d bg).map Rc.v)]) H:=by
 obtain⟨b,rfl⟩:=Int.eq_ofNat_of_zero_le o.nn;have room:=o.room;have hd:=o.len;have up:∀{m:Nat},m<=12+16*cK d b->b+m<=d.length:=λh=>LB (LV h b) (LU.mp room);have u12:∀{m:Nat},m<=12->b+m<=d.length:=λh=>up (LB h (L6 12 _));have hw1:∀x,Wf (H++[cw d x]):=λx=>Dk hw;have c1:¬ (d.length:Int)<(b:Int)+12:=Int.not_lt.mpr (LU.mpr (u12 (m:=12) (by decide)));have e2:=f2 (n:=n+2) hw hd o.nn (LU.mpr (u12 (m:=4) (by decide)));have g1:ak (H++[cw d ((b:Int)+4)]) H.length=some (cw d ((b:Int)+4)):=by rw[aS];rfl
 have e6:=f6 (n:=n+1) (hw1 ((b:Int)+4)) g1 hd (LQ (b+4)) (LU.mpr (u12 (m:=6) (by decide)));rw[bj,nz]at e6;have hi:jd (bv 6) (.obj H.length) (H++[cw d ((b:Int)+4)])=true:=ej g1 rfl;have hn:=Dh (n:=n+4) (d:=d) (a:=(b:Int)+4) hw;have e20:=IT (n:=n+4) (k:=(cK d (b:Int):Int)) (hw1 ((b:Int)+4+2));have hp:=Ag o.ver;have c2:¬ (d.length:Int)<(b:Int)+(12+16*(cK d (b:Int):Int)):=Int.not_lt.mpr room
 have hrg:bW [.int ((b:Int)+12),.int ((b:Int)+(12+16*(cK d (b:Int):Int))),.int 16] (H++[cw d ((b:Int)+4+2)]) = .ok (.rng ((b:Int)+12) 16 (cK d (b:Int))) (H++[cw d ((b:Int)+4+2)]):=by
  rw[show(b:Int)+(12+16*(cK d (b:Int):Int))=(b:Int)+12+16*(cK d (b:Int):Int)from(Int.add_assoc ..).symm];exact FM (LQ (b+12)) (Int.add_assoc (b:Int) 12 _▸Mt room (LU.mpr hd))
 have hel:elems (.rng ((b:Int)+12) 16 (cK d (b:Int)))=some ((List.range (cK d (b:Int))).map λk:Nat=>V.int ((b:Int)+12+(k:Int)*16)):=by
  show some (jb ((b:Int)+12) 16 (cK d (b:Int)))=_;rw[jw]
 have hcm:∀x y z w q:Option V,aE (cp (R (n+5)) (.call 21 (.cons (.var 0) (.cons (.var 6) .nil))) (.one 6) [some (.byt d),x,y,z,w,q,none]) ((List.range (cK d (b:Int))).map λk:Nat=>V.int ((b:Int)+12+(k:Int)*16)) (H++[cw d ((b:Int)+4+2)]) = .ok ((List.range (cK d (b:Int))).map λk:Nat=>(D0 d ((b:Int)+12+(k:Int)*16)).v) (H++[cw d ((b:Int)+4+2)]):=λx y z w q=>
  aQ λk hk=>by
   have hk:=List.mem_range.mp hk;have h1:=La (n:=n) (w:=(b:Int)+12+(k:Int)*16) (hw1 ((b:Int)+4+2)) hd (LQ (b+12+k*16)) (LU.mpr (by rw[Mj,<-Nat.succ_mul,Mj];exact up (LV (LB (Nat.mul_le_mul_right 16 hk) (Ma (Nat.mul_comm _ 16))) 12)));refine⟨?_,rfl⟩;simp -implicitDefEqProofs only[C9,iS,iR,nv,dR,eg,fh,fq,fm,bQ,ce,h1]
   rfl
 have hrs:((List.range (cK d (b:Int))).map λk:Nat=>(D0 d ((b:Int)+12+(k:Int)*16)).v)=(cf d (b:Int)).map Rc.v:=by unfold cf;rw[L5];rfl
 rw[hrs]at hcm;have e22:=Lb (n:=n+3) (size:=d.length) (hw1 ((b:Int)+4+2)) (rdRs_len.symm▸LB (Mu o.few) (by decide)) o.asc o.fin
 have e23:=Lc (n:=n+3) (bh:=(b:Int)+(12+16*(cK d (b:Int):Int))) (hw1 ((b:Int)+4+2)) o.rnd (by
  have h1:(iT (cf d (b:Int))).length<=(cf d (b:Int)).length:=by unfold iT;rw[LF];exact List.length_filter_le _ _
  rw[rdRs_len]at h1
  exact LN h1 o.few)
 refine rh (T:=[cw d ((b:Int)+4+2)]) (r:=(.ret (.tup [.int (aN (sl d (b:Int) 4)),.lst ((cf d (b:Int)).map Rc.v)]),[some (.byt d),some (.int (b:Int)),some (.int (aN (sl d (b:Int) 4))),some (.int (cK d (b:Int))),some (.int ((b:Int)+(12+16*(cK d (b:Int):Int)))),some (.lst ((cf d (b:Int)).map Rc.v)),none])) rfl rfl ?_ rfl rfl hw;rw[show aN (sl d ((b:Int)+4) 2)=cK d (b:Int)from rfl]at e6;refine sF rfl (decide_eq_false c1) (sA (av rfl e2) (sF (t:=.cmp .notin (.var 2) (.gv 0)) (congrArg (λo=>asB (optB (Option.map (!·) o) H)) hp) rfl ?_));refine sA (dA (w8 rfl hn) hi rfl e6) ?_;refine sA (bn rfl (av rfl e20) rfl) ?_;refine sF rfl (decide_eq_false c2) ?_;refine sA (dB (ji rfl hrg) hel (hcm _ _ _ _ _) rfl) ?_;refine sX (av rfl e22) (sX (av rfl e23) ?_);exact sR rfl
theorem pD:∀{kvs:List (List Nat × V)}{k:List Nat}{v:V},k∉kvs.map (·.1)->cx kvs k v=kvs++[(k,v)]:=by
 intro kvs
 induction kvs with
 |nil=>
  intro _ _ _;exact rfl
 |cons pp r ih=>
  obtain⟨k',x⟩:=pp;intro k v h;have h1:k'≠k:=λw=>h (by simp[w]);have h2:k∉r.map (·.1):=λw=>h (by simp[w]);simp only[BS,BT,if_neg h1,ih h2,List.cons_append]
theorem uB{l:List (List Nat × V)}:∀{acc:List (List Nat × V)},((acc++l).map (·.1)).Nodup->dq (l.map λp=>.tup [.str p.1,p.2]) acc=some (acc++l):=by
 induction l with
 |nil=>exact λ_=>congrArg some (LW _).symm
 |cons p l ih=>
  intro acc h
  have hk:p.1∉acc.map (·.1):=λw=>by
   rw[Mh,List.nodup_append]at h;exact h.2.2 _ w _ (.head _) rfl
  rw[List.append_cons]at h;show dq (l.map λp=>.tup [.str p.1,p.2]) (cx acc p.1 p.2)=_;rw[pD hk];exact(ih h).trans (congrArg some (List.append_cons _ _ _).symm)
noncomputable def Rc.kv(d:List UInt8)(r:Rc):List Nat × V:=(r.tag,.byt (sl d r.b r.l))
noncomputable def uC(d:List UInt8)(rs:List Rc):V:=.dct (rs.map (Rc.kv d))
theorem JD{rs:List Rc}(hw:Wf H)(hd:d.length<=aq)(hn:(rs.map Rc.tag).Nodup)(h0:∀r∈rs,0<=r.b/\0<=r.l/\r.b+r.l<=d.length) :
  R (n+2) 25 [.byt d,.lst (rs.map Rc.v)] H = .ok (uC d rs) H:=by
 have hc:aE (cp (R (n+1)) (.tup (.cons (.attr (.var 2) 3) (.cons (.sl (.var 0) (.attr (.var 2) 5) (.meth 19 (.var 2) .nil)) .nil))) (.one 2) [some (.byt d),some (.lst (rs.map Rc.v)),none]) (rs.map Rc.v) H = .ok (rs.map λr=>.tup [.str (r.kv d).1,(r.kv d).2]) H:=
  aQ λr hr=>by
   obtain⟨h1,h2,h3⟩:=h0 r hr;refine⟨?_,rfl⟩;have e3:=IS (n:=n) (tag:=r.tag) (t:=r.t) (b:=r.b) (l:=r.l) (w:=r.w) hw;have e4:aX r.v 3 H = .ok (.str r.tag) H:=nJ;have e5:aX r.v 5 H = .ok (.int r.b) H:=rA;have ei:jd (bv 19) r.v H=true:=rfl;rw[show uz r.tag r.t r.b r.l r.w=r.v from rfl]at e3;exact congrArg (λo:Out V=>o.vb λr H'=>.ok (some r) H') (xb (vs:=[.str r.tag,.byt (sl d r.b r.l)]) (aC (il rfl e4) (aC (K7 rfl (il rfl e5) (dA rfl ei rfl e3) (nH hd h1 h2 h3)) rfl)) rfl)
 have hp:dq (rs.map λr=>V.tup [.str (r.kv d).1,(r.kv d).2]) []=some (rs.map (Rc.kv d)):=by
  have:=uB (l:=rs.map (Rc.kv d)) (acc:=[]) (by
   rw[List.nil_append,L5]
   exact hn)
  rw[L5]at this;exact this
 refine bz (r:=(.ret (uC d rs),[some (.byt d),some (.lst (rs.map Rc.v)),none])) rfl rfl ?_ rfl rfl hw;exact sR (n0 (dB rfl rfl hc rfl) (congrArg (λo=>bo o λkvs=>.ok (V.dct kvs) H) hp))
noncomputable def gE(d:List UInt8)(bg:Int):V:=.tup [.int (aN (sl d bg 4)),uC d (cf d bg)]
theorem Dp{a b:Rc}(h:a.tag<b.tag):a.tag≠b.tag:=λe=>List.lt_irrefl b.tag (e▸h)
theorem uD{rs:List Rc}(asc:∀j,(h:j+1<rs.length)->iA (rs[j]'(by omega)).tag rs[j+1].tag=true):(rs.map Rc.tag).Nodup:=by
 have key:rs.Pairwise λx y=>x.tag<y.tag:=by
  induction rs with
  |nil=>exact .nil
  |cons x r ih=>
   have pr:=ih λj h=>asc (j+1) (Nat.succ_lt_succ h);refine Mq.mpr ⟨?_,pr⟩
   cases r with
   |nil=>exact λ_ h=>(by cases h)
   |cons y s=>
    have h0:x.tag<y.tag:=of_decide_eq_true ((eT _ _).symm.trans (asc 0 (Nat.succ_lt_succ (Ms _))));exact λz hz=>(LI.mp hz).elim (λe=>e▸h0) λhz=>List.lt_trans h0 ((Mq.mp pr).1 z hz)
 exact List.pairwise_map.mpr (key.imp Dp)
theorem RdOk.nodup{bg:Int}(o:RdOk d bg):((cf d bg).map Rc.tag).Nodup:=uD o.asc
theorem RdOk.in0{bg:Int}(o:RdOk d bg):∀r∈cf d bg,0<=r.b/\0<=r.l/\r.b+r.l<=d.length:=λr hr=>by
 refine⟨?_,?_,o.fin r hr⟩
 ·obtain⟨k,_,rfl⟩:=Mc.mp hr;exact LQ _
 ·obtain⟨k,_,rfl⟩:=Mc.mp hr;exact LQ _
theorem Ld(hw:Wf H)(o:RdOk d 0):R (n+7) 26 [.byt d] H = .ok (gE d 0) H:=by
 have e1:=JC (n:=n) hw o;have e2:=JD (n:=n+4) hw o.len o.nodup o.in0;refine bz (r:=(.ret (gE d 0),[some (.byt d),some (.int (aN (sl d 0 4))),some (.lst ((cf d 0).map Rc.v))])) rfl rfl ?_ rfl rfl hw;exact GS (av rfl e1) (sR (xb (aC rfl (aC (av rfl e2) rfl)) rfl))
theorem Le(hw:Wf H)(hd:d.length<=aq)(h:12<=d.length)(hv:aN (sl d 0 4)=1953784678):R (n+4) 27 [.byt d] H = .ok (.bool true) H:=
 have e1:=f2 (n:=n) (a:=0) hw hd (by decide) (LU.mpr (LB (by decide) h):(0:Int)+4<=d.length);have c2:n6 (.int (aN (sl d 0 4))) (.int 1953784678)=some true:=by rw[hv];rfl
 cJ rfl rfl (sR (FE (lH rfl rfl (xd (decide_eq_true (LU.mpr h)))) (lH (av rfl e1) rfl (xe c2)))) rfl rfl hw
noncomputable def bI(d:List UInt8)(k:Nat):Int:=aN (sl d (12+4*(k:Int)) 4)
structure Dq(d:List UInt8)(m:Nat):Prop where
 len:d.length<=aq
 kind:aN (sl d 0 4)=1953784678
 ver:aN (sl d 4 4)=65536
 cnt:aN (sl d 8 4)=m
 pos:0<m
 few:m<=64
 room:12+4*m<=d.length
 each:∀k,k<m->RdOk d (bI d k)
theorem xq{m k:Nat}{x y z q:Option V}(hw:Wf H)(o:Dq d m)(hk:k<m) :
  lp (R (n+6)) (.one 4) G6 (.int k) [some (.byt d),some (.obj H.length),x,some (.obj (H.length+1)),y,z,q] (H++[cw d (12+4*(k:Int)),.lst ((List.range k).map λj=>gE d (bI d j))]) =
   .ok (.next,[some (.byt d),some (.obj H.length),x,some (.obj (H.length+1)),some (.int k),some (.int (aN (sl d (bI d k) 4))),some (.lst ((cf d (bI d k)).map Rc.v))]) (H++[cw d (12+4*((k+1:Nat):Int)),.lst ((List.range (k+1)).map λj=>gE d (bI d j))]):=by
 have room:=o.room;have few:=o.few;have hw1:∀x l,Wf (H++[cw d x,.lst l]):=λx l=>hw.app rfl;have g1:∀x l,ak (H++[cw d x,.lst l]) H.length=some (cw d x):=λx l=>by rw[aS];rfl
 have g2:∀x l,ak (H++[cw d x,.lst l]) (H.length+1)=some (.lst l):=λx l=>by rw[bB];rfl
 have e7:=f7 (n:=n+2) (hw1 (12+4*(k:Int)) ((List.range k).map λj=>gE d (bI d j))) (g1 _ _) o.len (by lia) (by omega);rw[bj,nz,show aN (sl d (12+4*(k:Int)) 4)=bI d k from rfl,show 12+4*(k:Int)+4=12+4*((k+1:Nat):Int) by lia]at e7;have hi:jd (bv 7) (.obj H.length) (H++[cw d (12+4*(k:Int)),.lst ((List.range k).map λj=>gE d (bI d j))])=true:=ej (g1 _ _) rfl;have hl:tI (.obj (H.length+1)) (H++[cw d (12+4*((k+1:Nat):Int)),.lst ((List.range k).map λj=>gE d (bI d j))])=true:=kA (g2 _ _);have oo:=o.each k hk;have e24:=JC (n:=n) (hw1 (12+4*((k+1:Nat):Int)) ((List.range k).map λj=>gE d (bI d j))) oo;have e25:=JD (n:=n+4) (hw1 (12+4*((k+1:Nat):Int)) ((List.range k).map λj=>gE d (bI d j))) o.len oo.nodup oo.in0
 have ha:cj (.obj (H.length+1)) (gE d (bI d k)) (H++[cw d (12+4*((k+1:Nat):Int)),.lst ((List.range k).map λj=>gE d (bI d j))]) = .ok .none (H++[cw d (12+4*((k+1:Nat):Int)),.lst ((List.range (k+1)).map λj=>gE d (bI d j))]):=by
  have h2:((List.range k).map λj=>gE d (bI d j)).length<aq:=by rw[LF,Mk];unfold aq;omega
  have hob:(gE d (bI d k)).isObj=false:=rfl;exact fu (g2 _ _) hob h2 (by rw[bC,List.range_succ,Mh];rfl)
 have hd:(uC d (cf d (bI d k))).isObj=false:=rfl;have ha:cj (.obj (H.length+1)) (.tup [.int (aN (sl d (bI d k) 4)),uC d (cf d (bI d k))]) (H++[cw d (12+4*((k+1:Nat):Int)),.lst ((List.range k).map λj=>gE d (bI d j))]) = .ok .none (H++[cw d (12+4*((k+1:Nat):Int)),.lst ((List.range (k+1)).map λj=>gE d (bI d j))]):=ha;exact GS (av (aC rfl (aC (dA rfl hi rfl e7) rfl)) e24) (sX (pv rfl hl (xb (aC rfl (aC (av rfl e25) rfl)) rfl) ha) rfl)
theorem FO{x y:O}:(Out.ok (V.obj (H++[x]).length) ((H++[x])++[y]):Out V) = .ok (.obj (H.length+1)) (H++[x,y]):=by rw[LC,LG];rfl
end J.Internal
namespace J.Internal
noncomputable section
def tc(n:Nat)(d:List UInt8)(H:Hp)(m:Nat):Prop:=
 ∀(hw:Wf H)(o:Dq d m),R (n+7) 28 [.byt d] H = .ok (.lst ((List.range m).map λj=>gE d (bI d j))) H
namespace Kf28
def z:=ep (V4 tc)
def n:=z.1
def d:=z.2.1
def H:=z.2.2.1
def m:=z.2.2.2
theorem T:tc n d H m:=by
 intro hw o;have room:=o.room;have few:=o.few;have hd:=o.len;have pos:=o.pos;have r12:∀{k:Nat},k<=12->(k:Int)<=d.length:=λh=>LU.mpr (LB h (LB (L6 12 _) room));have e27:=Le (n:=n+2) hw hd (LB (L6 12 _) room) o.kind;have hn:=Dh (n:=n+5) (d:=d) (a:=4) hw;have hw1:∀x,Wf (H++[cw d x]):=λx=>Dk hw;have g1:∀x,ak (H++[cw d x]) H.length=some (cw d x):=λx=>by rw[aS];rfl
 have hi:∀x,jd (bv 7) (.obj H.length) (H++[cw d x])=true:=λx=>ej (g1 x) rfl;have e7:=f7 (n:=n+2) (hw1 4) (g1 4) hd (by decide) (r12 (k:=8) (by decide));have e8:=f7 (n:=n+2) (hw1 (4+4)) (g1 (4+4)) hd (by decide) (r12 (k:=12) (by decide));rw[bj,nz]at e7 e8;rw[o.ver]at e7;rw[show(4:Int)+4=8 by decide,o.cnt,show(8:Int)+4=12 by decide]at e8;have c1:(0:Int)<m:=Mi.mpr pos;have c2:(m:Int)<=64:=LU.mpr few;have c3:¬ (d.length:Int)<12+4*(m:Int):=Int.not_lt.mpr (LU.mpr room);obtain⟨σ',H',e,hS,y,z,q,hσ⟩:=dl (f:=lp (R (n+6)) (.one 4) G6) (g:=λk:Nat=>V.int k) (λpre σ H'=>H'=(H++[cw d (12+4*(pre.length:Int)),.lst ((List.range pre.length).map λj=>gE d (bI d j))])/\∃y z q,σ=[some (.byt d),some (.obj H.length),some (.int m),some (.obj (H.length+1)),y,z,q]) (List.range m)
  (σ:=[some (.byt d),some (.obj H.length),some (.int m),some (.obj (H.length+1)),none,none,none]) (H:=H++[cw d 12,.lst []]) ⟨rfl,_,_,_,rfl⟩ λpre x post he σ H1 ⟨hH,y,z,q,hσ⟩=>by
   subst hH;subst hσ;obtain⟨hx,_,hlt⟩:=cC he;subst hx;refine⟨_,_,xq hw o hlt,?_,_,_,_,rfl⟩;rw[LC,Mb]
 rw[Mk]at hS;subst hS;subst hσ;refine rh (T:=[cw d (12+4*(m:Int)),.dead]) (r:=(.ret (.lst ((List.range m).map λj=>gE d (bI d j))),[some (.byt d),some (.obj H.length),some (.int m),some (.obj (H.length+1)),y,z,q])) rfl rfl ?_ rfl rfl hw;have hrg:bW [.int m] (H++[cw d 12,.lst []]) = .ok (.rng 0 1 m) (H++[cw d 12,.lst []]):=pA (LB few (by decide));have g2:ak (H++[cw d (12+4*(m:Int)),.lst ((List.range m).map λj=>gE d (bI d j))]) (H.length+1)=some (.lst ((List.range m).map λj=>gE d (bI d j))):=by rw[bB];rfl
 have hfr:eC (.obj (H.length+1)) (H++[cw d (12+4*(m:Int)),.lst ((List.range m).map λj=>gE d (bI d j))]) = .ok (.lst ((List.range m).map λj=>gE d (bI d j))) (H++[cw d (12+4*(m:Int)),.dead]):=fQ g2 (by rw[bC];rfl);have hp:ln (.int ((65536:Nat):Int)) [.int 65536,.int 131072]=some true:=rfl;have hs4:small 4=true:=by decide
 have h44:(4:Int)+4=8:=by decide
 refine sF (rn (xc rfl e27)) rfl (sA (w8 rfl hn) (sF (t:=.cmp .notin _ _) (bM (dA rfl (hi 4) rfl e7) rfl (congrArg (λo=>optB (Option.map (!·) o) _) hp)) rfl (sA (dA rfl (hi _) rfl e8) ?_)));refine sF (DZ (rn (b:=true) (s7 rfl rfl (xd (decide_eq_true c1)) rfl (xd (decide_eq_true c2)))) (bM rfl (bn rfl (bn rfl rfl (nA rfl)) rfl) rfl)) (decide_eq_false c3) ?_;refine sA (v:=.obj (H.length+1)) (H1:=H++[cw d 12,.lst []]) (FO (y:=.lst [])) ?_;refine lG (ji rfl hrg) bS e ?_;exact sR (rk rfl hfr)
end Kf28
end
theorem Lf{n d H m}:tc n d H m:=cN (p:=V4 tc) Kf28.T (n,d,H,m)
variable{n:Nat}{H:Hp}
noncomputable def By(m k:Nat):UInt8:=UInt8.ofNat ((m / 2 ^ (8*k)) &&& 255)
noncomputable def cD(m:Nat):List UInt8:=[By m 3,By m 2,By m 1,By m 0]
noncomputable def iV(m:Nat):List UInt8:=[By m 1,By m 0]
theorem td(m k:Nat):(By m k).toNat=m / 2 ^ (8*k) % 256:=by
 unfold By;rw[show(255:Nat)=2 ^ 8 - 1 by decide,Nat.and_two_pow_sub_one_eq_mod,UInt8.toNat_ofNat'];exact Nat.mod_mod _ _
theorem jx{t x:Nat}(h:t=x / 256):t*256+x % 256=x:=h▸Nat.div_add_mod' x 256
theorem nK(m k:Nat):m / 2 ^ (8*(k+1))=m / 2 ^ (8*k) / 256:=by rw[Nat.div_div_eq_div_mul];exact congrArg (m / ·) (Nat.pow_add 2 (8*k) 8)
theorem xr{m k:Nat}(h:m<256*2 ^ (8*k)):0*256+m / 2 ^ (8*k) % 256=m / 2 ^ (8*k):=by rw[Nat.zero_mul,Nat.zero_add];exact Nat.mod_eq_of_lt (Nat.div_lt_of_lt_mul (Nat.mul_comm _ _▸h))
theorem cE{m:Nat}(h:m<4294967296):aN (cD m)=m:=by
 unfold aN cD;simp only[List.foldl_cons,List.foldl_nil,td];exact(jx ((jx ((jx ((xr (k:=3) h).trans (nK m 2))).trans (nK m 1))).trans (nK m 0))).trans (Nat.div_one m)
theorem xt{m:Nat}(h:m<65536):aN (iV m)=m:=by
 unfold aN iV;simp only[List.foldl_cons,List.foldl_nil,td];exact(jx ((xr (k:=1) h).trans (nK m 0))).trans (Nat.div_one m)
theorem pE{m k:Nat}(h:k<64):aL .shr (.int m) (.int k) H = .ok (.int (m / 2 ^ k:Nat)) H:=by
 have h1:(k:Int)<64:=by omega
 have h2:(0:Int)<=k:=LQ k;rw[zY];simp only[h1,h2,decide_true,Bool.and_self,bu,Int.toNat_natCast];congr 2;rw[show((2:Int) ^ k)=((2 ^ k:Nat):Int) by simp];exact(Int.ofNat_fdiv m (2 ^ k)).symm
theorem md{m k:Nat}:aL .band (.int m) (.int k) H = .ok (.int (m &&& k:Nat)) H:=by
 have h1:(0:Int)<=m:=LQ m;have h2:(0:Int)<=k:=LQ k;rw[w4];simp only[h1,h2,decide_true,Bool.and_self,bu,Int.toNat_natCast]
theorem i9{α:Type}{f:α->Nat}{l:List α}:(∀x∈l,f x<256)->cR (l.map λx=>.int (f x))=some (l.map λx=>UInt8.ofNat (f x)):=by
 induction l with
 |nil=>exact λ_=>rfl
 |cons x r ih=>exact λh=>(if_pos ⟨LQ _,Mi.mpr (h x (.head _))⟩ : (if (0:Int)<=f x/\(f x:Int)<256 then _ else none)=_).trans (congrArg (Option.map _) (ih λy m=>h y (.tail _ m)))
theorem Ah{x:Option V}{m:Nat}(l:List Nat)(hl:∀k∈l,k<8):aE (cp (R n) (.bin .band (.bin .shr (.var 0) (.bin .mul (.cint 8) (.var 2))) (.cint 255)) (.one 2) [some (.int m),x,none]) (l.map λk:Nat=>V.int k) H = .ok (l.map λk=>V.int ((m / 2 ^ (8*k) &&& 255:Nat))) H:=
 aQ λk hk=>by
  have h2:=pE (m:=m) (k:=8*k) (H:=H) (Nat.mul_lt_mul_of_pos_left (hl k hk) (by decide:0<8));exact⟨congrArg (λo:Out V=>o.vb λr H'=>.ok (some r) H') (bn (bn rfl (bn rfl rfl (nA rfl)) h2) rfl md),rfl⟩
theorem FP{v:V}{m k:Nat}{l:List Nat}(hw:Wf H)(hm:m / 2 ^ (8*k)=0)(hk:8*k<64)(hl:∀k∈l,k<8)(hr:bW [.int ((k:Int) - 1),.int (-1),.int (-1)] H = .ok v H)(hx:elems v=some (l.map λk:Nat=>V.int k)) :
  R (n+1) 9 [.int m,.int k] H = .ok (.byt (l.map λk=>UInt8.ofNat (m / 2 ^ (8*k) &&& 255))) H:=by
 have h0:=pE (m:=m) (k:=8*k) (H:=H) hk;rw[hm]at h0;have ht:=i9 (f:=λk=>m / 2 ^ (8*k) &&& 255) (l:=l) λk _=>LN (Nat.and_le_right) (by decide)
 exact bz (r:=(.ret _,[some (.int m),some (.int k),none])) rfl rfl (sF (DZ (bM rfl rfl (De (decide_eq_false (Int.not_lt.mpr (LQ m))))) (bM (bn rfl (bn rfl rfl (nA rfl)) h0) rfl rfl)) rfl
  (sR (n0 (dB (ji rfl hr) hx (Ah l hl) rfl) (congrArg (λo=>bo o λl=>.ok (V.byt l) H) ht)))) rfl rfl hw
theorem IW{m:Nat}(hw:Wf H)(h:m<4294967296):R (n+1) 9 [.int m,.int 4] H = .ok (.byt (cD m)) H:=
 FP (k:=4) (l:=[3,2,1,0]) hw (Nat.div_eq_of_lt h) (by decide) (by decide) rfl rfl
theorem FQ{m:Nat}(hw:Wf H)(h:m<65536):R (n+1) 9 [.int m,.int 2] H = .ok (.byt (iV m)) H:=
 FP (k:=2) (l:=[1,0]) hw (Nat.div_eq_of_lt h) (by decide) (by decide) rfl rfl
end J.Internal
namespace J.Internal
variable{n:Nat}{d acc:List UInt8}{a c:Int}{H:Hp}
noncomputable def oO(H:Hp)(acc:List UInt8):Hp:=H++[.ins 1 [(2,.obj (H.length+1))],.ba acc]
theorem xu(hw:Wf H):Wf (oO H acc):=hw.app (aT (aT (decide_eq_true (Nat.lt_succ_self _)) rfl) rfl)
theorem rC:ak (oO H acc) H.length=some (.ins 1 [(2,.obj (H.length+1))]):=by unfold oO;rw[aS];rfl
theorem xv:ak (oO H acc) (H.length+1)=some (.ba acc):=by unfold oO;rw[bB];rfl
theorem Dr{x:List UInt8}:au (oO H acc) (H.length+1) (.ba x)=oO H x:=by unfold oO;rw[bC];rfl
theorem xw:(oO H acc).length=H.length+2:=by unfold oO;simp
theorem te:aX (.obj H.length) 2 (oO H acc) = .ok (.obj (H.length+1)) (oO H acc):=dk rC rfl rfl
theorem Ds:yA (.obj (H.length+1)) (oO H acc)=true:=Da xv
theorem cq{f:Nat}(h:bv f=1):jd (bv f) (.obj H.length) (oO H acc)=true:=ej rC h.symm
theorem Dt{x:List UInt8}(hl:(acc++x).length<=aq):eD (.obj (H.length+1)) (.byt x) (oO H acc) = .ok .none (oO H (acc++x)):=by
 rw[Db xv hl,Dr]
theorem FR(hw:Wf H):eS prog (R (n+1)) 1 [] H = .ok (.obj H.length) (oO H []):=by
 have g0:ak (H++[.ins 1 [],.ba []]) H.length=some (.ins 1 []):=by rw[aS];rfl
 have h:R (n+1) 10 [.obj H.length] (H++[.ins 1 []]) = .ok .none (oO H []):=by
  rw[C6];simp -implicitDefEqProofs [H7,G2,cn,co,dH,cv g0 (k:=2) rfl (by simp),jI,jJ,bj,Fl.plain,Fl.val,oO]
 exact nw h rC
theorem oX{C:Nat->List V->Hp->Out V}{τ:ai}{e:E}{ss:Ss}{r:Out (Fl × ai)}{x:List UInt8}(h:ev prog C e (some (.obj H.length)::τ) (oO H acc) = .ok (.byt x) (oO H acc))(hl:(acc++x).length<=aq)(k:bA prog C ss (some (.obj H.length)::τ) (oO H (acc++x))=r) :
  bA prog C (.cons (.xpr (.ext (.attr (.var 0) 2) e)) ss) (some (.obj H.length)::τ) (oO H acc)=r:=sX (IL (il rfl te) Ds h (Dt hl)) k
theorem oR{n f:Nat}{vs:List V}{v:V}{x:List UInt8}{σ':ai}{fl:Fl}(hw:Wf H)(ha:vs.length=(bH f).arity)(hk:(bH f).keep=false)(hp:fl.plain=true)(hv:fl.val=v)
  (hx:bA prog (R n) (bH f).body (vs.map some++dW ((bH f).slots - (bH f).arity)) (oO H acc) = .ok (fl,σ') (oO H x)):R (n+1) f vs (oO H acc) = .ok v (oO H x):=
 hv▸bz (r:=(fl,σ')) ha hk hx (by rw[xw,xw]) hp (xu hw)
theorem Lg{m:Nat}(hw:Wf H)(h:m<65536)(hl:(acc++iV m).length<=aq):R (n+2) 11 [.obj H.length,.int m] (oO H acc) = .ok .none (oO H (acc++iV m)):=oR (fl:=.next) hw rfl rfl rfl rfl (oX (av rfl (FQ (xu hw) h)) hl rfl)
theorem Bz{m:Nat}(hw:Wf H)(h:m<4294967296)(hl:(acc++cD m).length<=aq):R (n+2) 12 [.obj H.length,.int m] (oO H acc) = .ok .none (oO H (acc++cD m)):=oR (fl:=.next) hw rfl rfl rfl rfl (oX (av rfl (IW (xu hw) h)) hl rfl)
noncomputable def eP(l:List Nat):List UInt8:=l.map λc=>UInt8.ofNat c
theorem Lh{l:List Nat}(hw:Wf H)(h4:l.length=4)(hc:∀c∈l,c<256)(hl:(acc++eP l).length<=aq):R (n+1) 13 [.obj H.length,.str l] (oO H acc) = .ok .none (oO H (acc++eP l)):=by
 have e1:aE (Bu (R n) (.var 2) (.one 2) (.cmp .gt (.b1 .ord (.var 2)) (.cint 255)) [some (.obj H.length),some (.str l),none]) (l.map λc=>.str [c]) (oO H acc) = .ok ((l.filter λ_=>false).map λc=>V.str [c]) (oO H acc):=
  ey λc hm=>by
   have h1:¬ (255:Int)<c:=Int.not_lt.mpr (LU.mpr (Mz (hc c hm)));exact⟨Dd (bM rfl rfl (De (decide_eq_false h1))),rfl⟩
 rw[List.filter_eq_nil_iff.mpr λ_ _=>L8,List.map_nil]at e1;have e2:aE (cp (R n) (.b1 .ord (.var 2)) (.one 2) [some (.obj H.length),some (.str l),none]) (l.map λc=>.str [c]) (oO H acc) = .ok (l.map λc:Nat=>V.int c) (oO H acc):=aQ λc hm=>⟨rfl,rfl⟩;have c1:(!((l.length:Int)==4))=false:=by rw[h4];rfl
 exact oR (fl:=.next) hw rfl rfl rfl rfl (sF (DZ (bM rfl rfl (De c1)) (bM (Aa rfl rfl e1 rfl) rfl rfl)) rfl (oX (n0 (dB rfl rfl e2 rfl) (congrArg (λo=>bo o λl=>.ok (V.byt l) (oO H acc)) (i9 (f:=λc=>c) hc))) hl rfl))
theorem Li{x y z:Nat}(hw:Wf H)(hx:x<65536)(hy:y<65536)(hz:z<65536)(hl:(acc++(iV x++(iV y++iV z))).length<=aq) :
  R (n+2) 14 [.obj H.length,.tup [.int x,.int y,.int z]] (oO H acc) = .ok .none (oO H (acc++(iV x++(iV y++iV z)))):=by
 have e1:aE (cp (R (n+1)) (.call 9 (.cons (.var 2) (.cons (.cint 2) .nil))) (.one 2) [some (.obj H.length),some (.tup [.int x,.int y,.int z]),none]) ([x,y,z].map λk:Nat=>V.int k) (oO H acc) = .ok ([x,y,z].map λk=>.byt (iV k)) (oO H acc):=
  aQ λk hk=>⟨ik (av rfl (FQ (xu hw) (by simp at hk;rcases hk with rfl|rfl|rfl<;>assumption))),rfl⟩
 exact oR (fl:=.next) hw rfl rfl rfl rfl (oX (rj (dB rfl rfl e1 rfl) (congrArg (λl=>some (iV x++(iV y++l))) (LW (iV z))) (by rw[LC]at hl;exact LB (Nat.le_add_left _ _) hl)) hl rfl)
theorem JE{x:List UInt8}(hw:Wf H)(hl:(acc++x).length<=aq):R (n+1) 15 [.obj H.length,.byt x] (oO H acc) = .ok .none (oO H (acc++x)):=oR (fl:=.next) hw rfl rfl rfl rfl (oX rfl hl rfl)
theorem JF(hw:Wf H):R (n+1) 16 [.obj H.length] (oO H acc) = .ok (.byt acc) (oO H acc):=oR (fl:=.ret (.byt acc)) hw rfl rfl rfl rfl (sR (n0 (il rfl te) (w7 xv)))
noncomputable def nM(l:List UInt8):Nat:=((-(l.length:Int)).fmod 4).toNat
noncomputable def aK(l:List UInt8):List UInt8:=l++List.replicate (nM l) 0
theorem im(l:List UInt8):nM l<4/\(l.length+nM l) % 4=0:=by
 unfold nM;rw[Int.fmod_eq_emod_of_nonneg _ (by decide)];obtain⟨k,hk⟩:=Int.eq_ofNat_of_zero_le (Int.emod_nonneg (-(l.length:Int)) (by decide:(4:Int)≠0));have h1:=Int.emod_lt_of_pos (-(l.length:Int)) (by decide:(0:Int)<4);have h2:((l.length:Int)+(-(l.length:Int)) % 4) % 4=0:=by rw[Int.add_emod_emod,Int.add_right_neg];rfl
 rw[hk]at h1 h2 ⊢;exact⟨Mi.mp h1,Int.ofNat.inj h2⟩
theorem dT(l:List UInt8):(aK l).length=l.length+nM l:=by simp[aK]
theorem xy(l:List UInt8):(aK l).length % 4=0:=by rw[dT];exact(im l).2
theorem Du{l:List UInt8}(h:l.length<=1000):bG .bytes (.int ((-(l.length:Int)).fmod 4)) H = .ok (.byt (List.replicate (nM l) 0)) H:=by
 have h0:(0:Int)<=(-(l.length:Int)).fmod 4:=Int.fmod_nonneg_of_pos _ (by decide);have h1:(-(l.length:Int)).fmod 4<=1000:=by have:=Int.fmod_lt_of_pos (-(l.length:Int)) (b:=4) (by decide);omega
 exact aU (aT (decide_eq_true h0) (decide_eq_true h1))
theorem xz{l:List UInt8}(h:l.length<=1000):(aK l).length<=aq:=by
 rw[dT];exact LB (Mf h (Mu (im l).1)) (by decide)
theorem BA{C:Nat->List V->Hp->Out V}{τ:ai}{l:List UInt8}(h:l.length<=1000):ev prog C (.bin .add (.var 0) (.b1 .bytes (.bin .mod (.neg (.b1 .len (.var 0))) (.cint 4)))) (some (.byt l)::τ) H = .ok (.byt (aK l)) H:=
 bn rfl (n0 (bn rfl rfl (w9 (by decide))) (Du h)) (s6 (xz h))
theorem IX{l:List UInt8}(hw:Wf H)(h:l.length<=1000):R (n+1) 33 [.byt l] H = .ok (.byt (aK l)) H:=bz (r:=(.ret (.byt (aK l)),[some (.byt l)])) rfl rfl (sR (BA h)) rfl rfl hw
noncomputable def Ai(l:List UInt8)(n:Nat):Nat:=n.rec 0 λk g=>g+aN (sl l (k*4:Nat) 4)
noncomputable def io(l:List UInt8):Nat:=Ai (aK l) ((aK l).length / 4) &&& 4294967295
theorem ti(l:List UInt8):io l<4294967296:=LN (Nat.and_le_right) (by decide)
theorem JG{l:List UInt8}(hw:Wf H)(h:l.length<=1000):R (n+3) 17 [.byt l] H = .ok (.int (io l)) H:=by
 have hpl:=dT l;have hpk:=im l;have hpm:=xy l;have hP:(aK l).length<=aq:=hpl▸LB (Mf h (Mu hpk.1)) (by decide);have h2:(l++List.replicate (nM l) 0).length<=aq:=hP;have hk4:=(Nat.mul_div_cancel' (Nat.dvd_of_mod_eq_zero hpm)).symm;generalize hk:(aK l).length / 4=k at *;obtain⟨σ',H',e,hS,q,hσ⟩:=dl (f:=lp (R (n+2)) (.one 3) Je) (g:=λk:Nat=>V.int (0+(k:Int)*4)) (λpre σ H'=>H'=H/\∃q,σ=[some (.byt l),some (.byt (aK l)),some (.int (Ai (aK l) pre.length)),q]) (List.range k)
  (σ:=[some (.byt l),some (.byt (aK l)),some (.int 0),none]) (H:=H) ⟨rfl,_,rfl⟩ λpre x post he σ H1 ⟨hH,q,hσ⟩=>by
   subst hH;subst hσ;obtain⟨hx,_,hlt⟩:=cC he;subst hx;have e1:=f1 (n:=n) (d:=aK l) (a:=((pre.length*4:Nat):Int)) (c:=4) hw hP (LQ _) (by decide) (by decide) (LU.mpr (Nat.succ_mul pre.length 4▸LB (Nat.mul_le_mul_right 4 hlt) (Ma ((Nat.mul_comm k 4).trans hk4.symm))));refine⟨_,_,?_,rfl,some (.int (0+(pre.length:Int)*4)),rfl⟩;rw[show(0:Int)+(pre.length:Int)*4=((pre.length*4:Nat):Int)from Int.zero_add _];rw[LC,Mb];exact sA (bn rfl (av rfl e1) rfl) rfl
 rw[Mk]at hσ;subst hS;subst hσ
 have hrg:bW [.int 0,.int (aK l).length,.int 4] H' = .ok (.rng 0 4 k) H':=by
  have hr:cy 0 (aK l).length 4=k:=by rw[hk4];exact(congrArg (λx=>cy 0 x 4) (Int.zero_add _).symm).trans (pC (c:=4) (by decide))
  rw[xo,hr,iU (x:=(aK l).length) (LQ _) (LU.mpr hP)];exact aU (decide_eq_true (LB (Nat.le_mul_of_pos_left k (by decide:0<4)) (hk4▸hP)))
 have hel:elems (.rng 0 4 k)=some ((List.range k).map λk:Nat=>V.int (0+(k:Int)*4)):=by
  show some (jb 0 4 k)=_;rw[jw]
 have hb:=md (m:=Ai (aK l) k) (k:=4294967295) (H:=H');rw[show((4294967295:Nat):Int)=4294967295 by rfl]at hb;refine bz (r:=(.ret (.int (io l)),[some (.byt l),some (.byt (aK l)),some (.int (Ai (aK l) k)),q])) rfl rfl ?_ rfl rfl hw;refine sA (BA h) (sA rfl (lG (ji rfl hrg) hel e ?_));refine(sR (bn rfl rfl hb)).trans ?_;unfold io;rw[hk]
noncomputable def tl:List Nat:=[104,101,97,100]
theorem JH{t:List Nat}{b:List UInt8}(hw:Wf H)(ht:t≠tl):R (n+1) 29 [.str t,.byt b] H = .ok (.bool false) H:=by
 have e1:n6 (.str t) (.str [104,101,97,100])=some false:=by
  show some (decide (t=[104,101,97,100]))=some false;have ht':¬t=[104,101,97,100]:=ht;rw[decide_eq_false ht']
 exact cJ rfl rfl (sR (FH (lH rfl rfl (xe e1)))) rfl rfl hw
theorem JI{t:List Nat}{b:List UInt8}(hw:Wf H)(ht:t≠tl):R (n+2) 30 [.str t,.byt b] H = .ok (.byt b) H:=cJ rfl rfl (sQ (xT (rn (xc rfl (JH hw ht))) rfl (sR rfl))) rfl rfl hw
theorem Lj{t:List Nat}{b:List UInt8}(hw:Wf H)(ht:t≠tl)(hl:b.length<=1000):R (n+4) 31 [.str t,.byt b] H = .ok (.int (io b)) H:=cJ rfl rfl (sR (av (a1 (av rfl (JI (n:=n+1) hw ht))) (JG hw hl))) rfl rfl hw
noncomputable def uE:Nat->Nat × Nat × Nat
 |1=>(16,0,0)
 |2=>(32,1,0)
 |3=>(32,1,16)
 |_=>(64,2,0)
theorem Lk{k:Nat}(hw:Wf H)(h1:1<=k)(h4:k<=4):R (n+1) 32 [.int k] H = .ok (.tup [.int (uE k).1,.int (uE k).2.1,.int (uE k).2.2]) H:=by
 have hk:k=1\/k=2\/k=3\/k=4:=match k,h1,h4 with
  |1,_,_=>.inl rfl
  |2,_,_=>.inr (.inl rfl)
  |3,_,_=>.inr (.inr (.inl rfl))
  |4,_,_=>.inr (.inr (.inr rfl))
  |k+5,_,h=>absurd h (Nat.not_le_of_lt (Nat.lt_add_left k (by decide)))
 rcases hk with rfl|rfl|rfl|rfl
 ·exact bz (r:=(.ret (.tup [.int 16,.int 0,.int 0]),[some (.int 1),some (.int 1),some (.int 0)])) rfl rfl rfl rfl rfl hw
 ·exact bz (r:=(.ret (.tup [.int 32,.int 1,.int 0]),[some (.int 2),some (.int 2),some (.int 1)])) rfl rfl rfl rfl rfl hw
 ·exact bz (r:=(.ret (.tup [.int 32,.int 1,.int 16]),[some (.int 3),some (.int 2),some (.int 1)])) rfl rfl rfl rfl rfl hw
 ·exact bz (r:=(.ret (.tup [.int 64,.int 2,.int 0]),[some (.int 4),some (.int 4),some (.int 2)])) rfl rfl rfl rfl rfl hw
noncomputable def tags4:List (List Nat):=[[79,83,47,50],[99,109,97,112],[103,108,121,102],[109,97,120,112]]
noncomputable def tagsX:List (List Nat):=[[104,101,97],[104,101,97,100,115],[104,101,31,100],[104,101,127,100]]
noncomputable def uF(k:List Nat):Bool:=decide (k∈tags4)
noncomputable def xA(v:Nat):Bool:=((65536:Int)==v)||(((1330926671:Int)==v)||(((1953658213:Int)==v)||false))
theorem tm(v:Nat):ln (.int v) [.int 65536,.int 1330926671,.int 1953658213]=some (xA v):=rfl
theorem xB{v:Nat}(h:xA v=true):ma v:=by
 simp only[xA,Bool.or_eq_true,beq_iff_eq,Bool.or_false]at h;unfold ma;rcases h with h|h|h<;>first|exact .inl (Int.ofNat.inj h.symm)|exact .inr (.inl (Int.ofNat.inj h.symm))|exact .inr (.inr (Int.ofNat.inj h.symm))
theorem Aj{C:Nat->List V->Hp->Out V}{k:List Nat}{x y z:Option V}(h:k∈tags4):lp C (.one 2) D3 (.str k) [x,y,z] H = .ok (.next,[x,y,some (.str k)]) H:=by
 simp only[tags4,List.mem_cons,List.mem_nil_iff,or_false]at h;rcases h with rfl|rfl|rfl|rfl<;>rfl
theorem Dv{C:Nat->List V->Hp->Out V}{k:List Nat}{x y z:Option V}(h:k∈tagsX):lp C (.one 2) D3 (.str k) [x,y,z] H = .exc H:=by
 simp only[tagsX,List.mem_cons,List.mem_nil_iff,or_false]at h;rcases h with rfl|rfl|rfl|rfl<;>rfl
theorem tu{C:Nat->List V->Hp->Out V}{x y:Option V}:∀(l:List (List Nat))(z:Option V),(∀k∈l,k∈tags4\/k∈tagsX)->
  (l.all uF=true->∃z',bU (lp C (.one 2) D3) (l.map .str) [x,y,z] H = .ok (.next,[x,y,z']) H)/\(l.all uF=false->bU (lp C (.one 2) D3) (l.map .str) [x,y,z] H = .exc H):=by
 intro l
 induction l with
 |nil=>exact λz _=>⟨λ_=>⟨z,rfl⟩,λh=>by cases h⟩
 |cons k r ih=>
  intro z h;obtain⟨i1,i2⟩:=ih (some (.str k)) λk' h'=>h k' (LK _ h')
  by_cases hk:k∈tags4
  ·have e:=Aj (C:=C) (H:=H) (x:=x) (y:=y) (z:=z) hk;rw[List.map_cons,bR e];simp only[List.all_cons,uF,hk,decide_true,Bool.true_and];exact⟨i1,i2⟩
  ·have hx:k∈tagsX:=by rcases h k LL with w|w;exact absurd w hk;exact w
   have e:=Dv (C:=C) (H:=H) (x:=x) (y:=y) (z:=z) hx;refine⟨λw=>?_,λ_=>?_⟩
   ·simp[uF,hk]at w
   ·simp -iota only[List.map_cons,qb,mx,e,wY]
structure Fnt where
 v:Nat
 t:List (List Nat × List UInt8)
noncomputable def Fnt.kv(f:Fnt):List (List Nat × V):=f.t.map λp=>(p.1,.byt p.2)
noncomputable def Fnt.V(f:Fnt):V:=.tup [.int f.v,.dct f.kv]
structure Fnt.Ok(f:Fnt):Prop where
 nd:(f.t.map (·.1)).Nodup
 keys:∀k∈f.t.map (·.1),k∈tags4\/k∈tagsX
 small:∀p∈f.t,p.2.length<=6
 few:f.t.length<=4
noncomputable def Fnt.good(f:Fnt):Bool:=xA f.v&&!f.t.isEmpty&&(f.t.map (·.1)).all uF
theorem Fnt.kv_len{f:Fnt}:f.kv.length=f.t.length:=by simp[Fnt.kv]
theorem Fnt.kv_keys{f:Fnt}:f.kv.map (·.1)=f.t.map (·.1):=by simp[Fnt.kv]
theorem Fnt.elems{f:Fnt}:elems (.dct f.kv)=some ((f.t.map (·.1)).map V.str):=by
 show some (f.kv.map λp=>V.str p.1)=_;unfold Fnt.kv;rw[L5,L5]
 rfl
theorem xE{f:Fnt}(h:0<f.t.length):(0:Int)<f.kv.length:=Mi.mpr (Fnt.kv_len▸h)
theorem xF{f:Fnt}(o:f.Ok):(f.kv.length:Int)<=4095:=LU.mpr (Fnt.kv_len▸LB o.few (by decide))
theorem pF{f:Fnt}(hw:Wf H)(o:f.Ok)(h:f.good=true):R (n+1) 34 [.int f.v,.dct f.kv] H = .ok .none H:=by
 simp only[Fnt.good,Bool.and_eq_true,Bool.not_eq_true']at h;obtain⟨⟨h1,h2⟩,h3⟩:=h;obtain⟨z',e⟩:=(tu (C:=R n) (H:=H) (x:=some (.int f.v)) (y:=some (.dct f.kv)) (f.t.map (·.1)) none o.keys).1 h3;have hp:=tm f.v;rw[h1]at hp;have hl:0<f.t.length:=by cases hf:f.t with|nil=>rw[hf]at h2;cases h2|cons _ _=>exact Ms _
 exact bz (r:=(.next,[some (.int f.v),some (.dct f.kv),z'])) rfl rfl (sF (bM rfl rfl (IP hp)) rfl (sF (rn (s7 rfl rfl (xd (decide_eq_true (xE hl))) rfl (xd (decide_eq_true (xF o))))) rfl (lG rfl Fnt.elems e rfl))) rfl rfl hw
theorem tv{f:Fnt}(hw:Wf H)(o:f.Ok)(h:f.good=false):R (n+1) 34 [.int f.v,.dct f.kv] H = .exc H:=by
 have hp:=tm f.v;refine sK (T:=[]) rfl rfl ?_ hw;rw[LW]
 cases h1:xA f.v with
 |false=>rw[h1]at hp;exact IM (xT (bM rfl rfl (IP hp)) rfl rfl)
 |true=>
  rw[h1]at hp;refine sF (bM rfl rfl (IP hp)) rfl ?_
  by_cases h2:f.t=[]
  ·exact IM (xT (rn (Dg rfl rfl (De (decide_eq_false (by rw[Fnt.kv_len,h2];exact Int.lt_irrefl _))))) rfl rfl)
  ·have h3:(f.t.map (·.1)).all uF=false:=by
    have he:f.t.isEmpty=false:=by cases hf:f.t with|nil=>exact absurd hf h2|cons _ _=>rfl
    simp only[Fnt.good,h1,he,Bool.not_false,Bool.true_and]at h;exact h
   exact sF (rn (s7 rfl rfl (xd (decide_eq_true (xE (List.length_pos_iff.mpr h2)))) rfl (xd (decide_eq_true (xF o))))) rfl (FG rfl Fnt.elems ((tu (C:=R n) (H:=H) (x:=some (.int f.v)) (y:=some (.dct f.kv)) (f.t.map (·.1)) none o.keys).2 h3))
structure WR where
 tag:List Nat
 t:Nat
 b:Nat
 l:Nat
noncomputable def WR.v(r:WR):V:=uz r.tag r.t r.b r.l 0
structure WR.Ok(r:WR):Prop where
 h4:r.tag.length=4
 hc:∀c∈r.tag,c<256
 ht:r.t<4294967296
 hb:r.b<4294967296
 hl:r.l<4294967296
noncomputable def fW(r:WR):List UInt8:=eP r.tag++(cD r.t++(cD r.b++cD r.l))
noncomputable def kG(v c:Nat):List UInt8:=cD v++(iV c++(iV (uE c).1++(iV (uE c).2.1++iV (uE c).2.2)))
noncomputable def fX(v:Nat)(rs:List WR):List UInt8:=kG v rs.length++rs.flatMap fW
theorem kH(v c:Nat):(kG v c).length=12:=rfl
theorem xG{r:WR}(o:r.Ok):(fW r).length=16:=by
 unfold fW eP;simp only[List.length_append,List.length_map,o.h4]
 rfl
theorem kJ:∀{rs:List WR},(∀r∈rs,r.Ok)->(rs.flatMap fW).length=16*rs.length:=by
 intro rs
 induction rs with
 |nil=>
  intro _;exact rfl
 |cons r rs ih=>
  intro h;rw[List.flatMap_cons,LC,xG (h r LL),ih λx hx=>h x (LK _ hx),List.length_cons];omega
theorem cG{v:Nat}{rs:List WR}(h:∀r∈rs,r.Ok):(fX v rs).length=12+16*rs.length:=by
 unfold fX;rw[LC,kH,kJ h]
theorem xH{r:WR}{x y z:Option V}(hw:Wf H)(o:r.Ok)(hl:acc.length+16<=aq) :
  lp (R (n+2)) (.one 3) Gd r.v [x,y,some (.obj H.length),z] (oO H acc) = .ok (.next,[x,y,some (.obj H.length),some r.v]) (oO H (acc++fW r)):=by
 have e3:∀H,aX r.v 3 H = .ok (.str r.tag) H:=λH=>nJ;have e4:∀H,aX r.v 4 H = .ok (.int r.t) H:=λH=>Dl;have e5:∀H,aX r.v 5 H = .ok (.int r.b) H:=λH=>rA;have e6:∀H,aX r.v 6 H = .ok (.int r.l) H:=λH=>xi;have l4:∀m,(cD m).length=4:=λm=>rfl;have lt:(eP r.tag).length=4:=by unfold eP;rw[LF,o.h4]
 have m13:=Lh (n:=n+1) (acc:=acc) hw o.h4 o.hc (by rw[LC,lt];omega);have m12:=Bz (n:=n) (acc:=acc++eP r.tag) hw o.ht (by simp only[List.length_append,lt,l4];omega);have m12b:=Bz (n:=n) (acc:=acc++eP r.tag++cD r.t) hw o.hb (by simp only[List.length_append,lt,l4];omega);have m12c:=Bz (n:=n) (acc:=acc++eP r.tag++cD r.t++cD r.b) hw o.hl (by simp only[List.length_append,lt,l4];omega);have hi:∀acc,jd (bv 13) (.obj H.length) (oO H acc)=true:=λacc=>cq rfl;have hi2:∀acc,jd (bv 12) (.obj H.length) (oO H acc)=true:=λacc=>cq rfl;rw[show acc++fW r=acc++eP r.tag++cD r.t++cD r.b++cD r.l by unfold fW;simp only[List.append_assoc]];simp only[Gd,w0,iS,iR,di,nu,ij,fh,fq,fm,bQ,ce,hi,hi2,bu,dR,eg,zV,e3,e4,e5,e6,m13,m12,m12b,m12c,l9,dj,nr]
end J.Internal
namespace J.Internal
noncomputable section
def tw(n:Nat)(H:Hp)(v:Nat)(rs:List WR):Prop:=
 ∀(hw:Wf H)(hv:v<4294967296)(h1:1<=rs.length)(h4:rs.length<=4)(o:∀r∈rs,r.Ok),R (n+3) 35 [.int v,.lst (rs.map WR.v)] H = .ok (.byt (fX v rs)) H
namespace Kf35
def z:=ep (V4 tw)
def n:=z.1
def H:=z.2.1
def v:=z.2.2.1
def rs:=z.2.2.2
theorem T:tw n H v rs:=by
 intro hw hv h1 h4 o;obtain⟨σ',H',e,hS,z,hσ⟩:=dl (f:=lp (R (n+2)) (.one 3) Gd) (g:=WR.v) (λpre σ H'=>H'=oO H (kG v rs.length++pre.flatMap fW)/\∃z,σ=[some (.int v),some (.lst (rs.map WR.v)),some (.obj H.length),z]) rs
  (σ:=[some (.int v),some (.lst (rs.map WR.v)),some (.obj H.length),none]) (H:=oO H (kG v rs.length)) ⟨by rw[List.flatMap_nil,LW],_,rfl⟩ λpre x post he σ H1 ⟨hH,z,hσ⟩=>by
   subst hH;subst hσ;have hx:x∈rs:=by rw[he];simp
   have hp:∀r∈pre,r.Ok:=λr hr=>o r (by rw[he];simp[hr]);have hle:pre.length<=rs.length:=by rw[he];simp
   refine⟨_,_,xH hw (o x hx) (by rw[LC,kH,kJ hp];unfold aq;omega),?_,_,rfl⟩;rw[List.flatMap_append,LG,List.flatMap_cons,List.flatMap_nil,LW]
 subst hS;subst hσ;have i12:∀acc,jd (bv 12) (.obj H.length) (oO H acc)=true:=λacc=>cq rfl;have i11:∀acc,jd (bv 11) (.obj H.length) (oO H acc)=true:=λacc=>cq rfl;have i14:∀acc,jd (bv 14) (.obj H.length) (oO H acc)=true:=λacc=>cq rfl;have i16:∀acc,jd (bv 16) (.obj H.length) (oO H acc)=true:=λacc=>cq rfl;have sb:∀c,(uE c).1<65536/\(uE c).2.1<65536/\(uE c).2.2<65536:=λc=>by unfold uE;split<;>decide
 have l4:∀m,(cD m).length=4:=λm=>rfl;have l2:∀m,(iV m).length=2:=λm=>rfl;have hn:=FR (n:=n+1) (H:=H) hw;have m12:=Bz (n:=n) (acc:=[]) hw hv (by simp only[List.length_append,List.length_nil,l4];decide);have m11:=Lg (n:=n) (m:=rs.length) (acc:=[]++cD v) hw (by omega) (by simp only[List.length_append,List.length_nil,l4,l2];decide);have m32:=Lk (n:=n+1) (k:=rs.length) (xu (acc:=[]++cD v++iV rs.length) hw) h1 h4;have m14:=Li (n:=n) (acc:=[]++cD v++iV rs.length) hw (sb rs.length).1 (sb rs.length).2.1 (sb rs.length).2.2 (by simp only[List.length_append,List.length_nil,l4,l2];decide);rw[show[]++cD v++iV rs.length++(iV (uE rs.length).1++(iV (uE rs.length).2.1++iV (uE rs.length).2.2))=kG v rs.length by unfold kG;simp only[List.append_assoc,List.nil_append]]at m14;have m16:=JF (n:=n+1) (acc:=fX v rs) hw;refine rh (T:=[.ins 1 [(2,.obj (H.length+1))],.ba (fX v rs)]) (r:=(.ret (.byt (fX v rs)),[some (.int v),some (.lst (rs.map WR.v)),some (.obj H.length),z])) rfl rfl ?_ rfl rfl hw;simp only[Ib,G7,cn,co,List.map_cons,List.map_nil,List.cons_append,List.nil_append,di,nt,wX,eg,ce,hn,iS,iR,dj,nu,ij,fh,fq,fm,bQ,i12,bu,dR];simp only[List.nil_append,List.append_assoc]at m12 m11 m32 m14;simp only[m12,l9,dj,di,nu,ij,fh,fq,fm,bQ,i11,i14,bu,dR,eg,ce,Fq,sZ,List.length_map,m11,nv,m32,m14,wU,ii (v:=.lst (rs.map WR.v)) rfl];rw[e];rw[show kG v rs.length++rs.flatMap fW=fX v rs from rfl];simp only[dj,di,wS,ij,fh,fq,fm,bQ,ce,i16,bu,eg,m16,l9,sO]
 rfl
end Kf35
end
theorem JJ{n H v rs}:tw n H v rs:=cN (p:=V4 tw) Kf35.T (n,H,v,rs)
variable{n:Nat}{d:List UInt8}{a c:Int}{H:Hp}
noncomputable def GU{α:Type}(d:α)(l:List (List Nat × α))(x:List Nat):α:=l.rec d λp _ g=>if p.1=x then p.2 else g
noncomputable def cQ(l:List (List Nat × List UInt8))(x:List Nat):List UInt8:=GU [] l x
theorem Ak{t:List (List Nat × List UInt8)}:∀{k:List Nat},k∈t.map (·.1)->(k,cQ t k)∈t:=by
 induction t with
 |nil=>exact λh=>(by cases h)
 |cons p r ih=>
  intro k h;show(k,if p.1=k then p.2 else cQ r k)∈p::r
  by_cases e:p.1=k
  ·rw[if_pos e];exact e▸.head _
  ·rw[if_neg e];exact .tail _ (ih ((LI.mp h).resolve_left λw=>e w.symm))
theorem xI{α:Type}{d:α}{g:α->V}{t:List (List Nat × α)}:∀{k:List Nat},k∈t.map (·.1)->fy (t.map λp=>(p.1,g p.2)) k=some (g (GU d t k)):=by
 induction t with
 |nil=>exact λh=>(by cases h)
 |cons p r ih=>
  intro k h;show(if p.1=k then some (g p.2)else fy (r.map λp=>(p.1,g p.2)) k)=some (g (if p.1=k then p.2 else GU d r k))
  by_cases e:p.1=k
  ·rw[if_pos e,if_pos e]
  ·rw[if_neg e,if_neg e];exact ih ((LI.mp h).resolve_left λw=>e w.symm)
theorem rD{t:List (List Nat × List UInt8)}{k:List Nat}(h:k∈t.map (·.1)):fy (t.map λp=>(p.1,V.byt p.2)) k=some (.byt (cQ t k)):=xI h
noncomputable def Fnt.ks(f:Fnt):List (List Nat):=iX iA (f.t.map (·.1)) []
noncomputable def Fnt.es(f:Fnt):List (List Nat × List UInt8):=f.ks.map λk=>(k,cQ f.t k)
theorem Fnt.ks_perm(f:Fnt):f.ks.Perm (f.t.map (·.1)):=by
 show(iX iA (f.t.map (·.1)) []).Perm _;simpa using eU (lt:=iA) (f.t.map (·.1)) []
theorem Fnt.ks_len(f:Fnt):f.ks.length=f.t.length:=by simpa using f.ks_perm.length_eq
theorem Fnt.es_len(f:Fnt):f.es.length=f.t.length:=by unfold Fnt.es;rw[LF,f.ks_len]
theorem Fnt.sorted(f:Fnt){σ:ai}{H:Hp}(h:f.t.length<=4):bG .sorted (.dct f.kv) H = .ok (.lst (f.ks.map V.str)) H:=by
 have h1:f.kv.length<64:=by rw[Fnt.kv_len];omega
 exact(aU (decide_eq_true h1):guard (decide (f.kv.length<64)) _=_).trans (by rw[Fnt.kv_keys];rfl)
theorem Fnt.get(f:Fnt){k:List Nat}(h:k∈f.ks):fy f.kv k=some (.byt (cQ f.t k)):=rD (f.ks_perm.mem_iff.mp h)
theorem Fnt.small_at{f:Fnt}(o:f.Ok){k:List Nat}(h:k∈f.ks):(cQ f.t k).length<=6:=o.small _ (Ak (f.ks_perm.mem_iff.mp h))
theorem kK{k:List Nat}(h:k∈tags4):k≠tl:=by
 simp only[tags4,List.mem_cons,List.mem_nil_iff,or_false]at h;rcases h with rfl|rfl|rfl|rfl<;>decide
theorem kM{k:List Nat}(h:k∈tags4):k.length=4/\∀c∈k,c<256:=by
 simp only[tags4,List.mem_cons,List.mem_nil_iff,or_false]at h;rcases h with rfl|rfl|rfl|rfl<;>decide
theorem Fnt.good_keys{f:Fnt}(h:f.good=true):∀k∈f.ks,k∈tags4:=λk hk=>by
 simp only[Fnt.good,Bool.and_eq_true,List.all_eq_true]at h;exact of_decide_eq_true (h.2 k (f.ks_perm.mem_iff.mp hk))
theorem Fnt.good_pos{f:Fnt}(h:f.good=true):1<=f.t.length:=by
 simp only[Fnt.good,Bool.and_eq_true,Bool.not_eq_true']at h
 cases hf:f.t with
 |nil=>rw[hf]at h;simp at h
 |cons _ _=>simp
theorem kP{v:Nat}(h:ma v):v<4294967296:=by rcases h with rfl|rfl|rfl<;>decide
theorem Fnt.good_ver{f:Fnt}(h:f.good=true):ma f.v:=by
 simp only[Fnt.good,Bool.and_eq_true]at h;exact xB h.1.1
noncomputable abbrev bV:=List Nat × List UInt8
noncomputable def tot(l:List bV):Nat:=l.rec 0 λp _ g=>(aK p.2).length+g
theorem JK:tot []=0:=rfl
theorem JL{p:bV}{r:List bV}:tot (p::r)=(aK p.2).length+tot r:=rfl
theorem BB{l:List UInt8}(h:l.length<=6):(aK l).length<=9:=dT l▸Mf h (Mz (im l).1)
theorem xJ{l:List bV}(h:∀p∈l,p.2.length<=6):tot l<=9*l.length:=by
 induction l with
 |nil=>exact LZ _
 |cons p r ih=>exact LB (Mf (BB (h p LL)) (ih λq hq=>h q (LK _ hq))) (Ma (Nat.add_comm _ _))
noncomputable def rE(b:Nat)(l:List bV):List WR:=List.rec (motive:=λ_=>Nat->List WR) (λ_=>[]) (λp _ g b=>⟨p.1,io p.2,b,p.2.length⟩::g (b+(aK p.2).length)) l b
theorem JM{b:Nat}:rE b []=[]:=rfl
theorem JN{b:Nat}{p:bV}{r:List bV}:rE b (p::r)=⟨p.1,io p.2,b,p.2.length⟩::rE (b+(aK p.2).length) r:=rfl
theorem dC:∀(b:Nat)(l:List bV),(rE b l).length=l.length:=by
 intro b l
 induction l generalizing b with
 |nil=>
  exact rfl
 |cons p r ih=>
  exact congrArg (· + 1) (ih _)
theorem Al:∀(l:List bV)(b:Nat),(∀p∈l,p.1∈tags4/\p.2.length<=6)->b+9*l.length<4294967296->∀r∈rE b l,r.Ok:=by
 intro l
 induction l with
 |nil=>intro b _ _ r hr;cases hr
 |cons p l ih=>
  intro b h hb r hr;obtain⟨h1,h2⟩:=h p LL;rcases LI.mp hr with rfl|hr
  ·exact⟨(kM h1).1,(kM h1).2,ti _,LN (L6 _ _) hb,LN h2 (by decide)⟩
  ·exact ih _ (λq hq=>h q (LK _ hq)) (LN (LB (MB (LV (BB h2) b) _) (Ma (by rw[List.length_cons,Nat.mul_succ,Mj,Nat.add_comm 9]))) hb) r hr
theorem pG{f:Fnt}(o:f.Ok):∀p∈f.es,p.2.length<=6:=λp hp=>by
 obtain⟨k,hk,rfl⟩:=Mc.mp hp;exact Fnt.small_at o hk
theorem xK{f:Fnt}(o:f.Ok)(hg:f.good=true):∀r∈rE (12+16*f.t.length) f.es,r.Ok:=
 Al f.es _ (λp hp=>by
  obtain⟨k,hk,rfl⟩:=Mc.mp hp
  exact⟨f.good_keys hg k hk,Fnt.small_at o hk⟩) (by rw[f.es_len];exact LN (Mf (LV (LX 16 o.few) 12) (LX 9 o.few)) (by decide))
noncomputable def nN(l:List bV):List UInt8:=l.flatMap λp=>aK p.2
theorem pH:∀(l:List bV),(nN l).length=tot l:=by
 intro l
 induction l with
 |nil=>
  exact rfl
 |cons p r ih=>
  rw[nN,List.flatMap_cons,LC];exact congrArg ((aK p.2).length + ·) (ih)
theorem me{α:Type}{f:α->List UInt8}:∀(l:List α),joinB (l.map λx=>V.byt (f x))=some (l.flatMap f):=by
 intro l
 induction l with
 |nil=>rfl
 |cons x r ih=>exact congrArg (Option.map (f x++·)) ih
noncomputable def mf(H:Hp)(rs:List V)(ps:List V):Hp:=H++[.lst rs,.lst ps]
theorem D1{rs ps:List V}(hw:Wf H):Wf (mf H rs ps):=hw.app rfl
theorem xL{rs ps:List V}:ak (mf H rs ps) H.length=some (.lst rs):=by unfold mf;rw[aS];rfl
theorem xM{rs ps:List V}:ak (mf H rs ps) (H.length+1)=some (.lst ps):=by unfold mf;rw[bB];rfl
theorem Dw{rs ps:List V}{v:V}(ho:v.isObj=false)(hl:rs.length<aq):cj (.obj H.length) v (mf H rs ps) = .ok .none (mf H (rs++[v]) ps):=fu xL ho hl (by unfold mf;rw[bj];rfl)
theorem Dx{rs ps:List V}{v:V}(ho:v.isObj=false)(hl:ps.length<aq):cj (.obj (H.length+1)) v (mf H rs ps) = .ok .none (mf H rs (ps++[v])):=fu xM ho hl (by unfold mf;rw[bC];rfl)
theorem Dy{rs ps:List V}:tI (.obj H.length) (mf H rs ps)=true:=kA xL
theorem Dz{rs ps:List V}:tI (.obj (H.length+1)) (mf H rs ps)=true:=kA xM
theorem Am{xs:List V}{v:V}:eR (xs++[v]) (-1)=some v:=by
 unfold eR;rw[LC,Mb,if_neg (by decide),if_pos (show -((xs.length+1:Nat):Int)<=-1 from Int.neg_le_neg (LU.mpr (Nat.succ_le_succ (Mr _)))),Int.add_comm,show(((xs.length+1:Nat):Int) + -1).toNat=xs.length from Int.toNat_sub (xs.length+1) 1];exact LO
noncomputable def sI(f:Fnt)(L b:Nat)(x6 x7:Option V):ai:=[some (.int f.v),some (.dct f.kv),some (.obj L),some (.obj (L+1)),some .none,some (.int b),x6,x7,none]
section
variable{f:Fnt}{rs ps:List V}{k:List Nat}{x6 x7:Option V}
theorem xN{b:Nat}(hw:Wf H)(o:f.Ok)(hg:f.good=true)(hk:k∈f.ks)(hr:rs.length<aq)(hp:ps.length<aq) :
  lp (R (n+4)) (.one 6) G8 (.str k) (sI f H.length b x6 x7) (mf H rs ps) = .ok (.next,sI f H.length (b+(aK (cQ f.t k)).length) (some (.str k)) (some (.byt (cQ f.t k)))) (mf H (rs++[WR.v ⟨k,io (cQ f.t k),b,(cQ f.t k).length⟩]) (ps++[.byt (aK (cQ f.t k))])):=
 have hh:=kK (f.good_keys hg k hk);have hs:=LB (Fnt.small_at o hk) (by decide:6<=1000);have e33:=IX (n:=n+3) (l:=cQ f.t k) (D1 (rs:=rs++[WR.v ⟨k,io (cQ f.t k),b,(cQ f.t k).length⟩]) (ps:=ps) hw) hs
 sA (av (aC rfl (a1 (ci rfl rfl (rz (f.get hk))))) (JI (n:=n+2) (D1 hw) hh)) (sF (xc rfl (JH (n:=n+3) (D1 hw) hh)) rfl
  (sX (pv rfl Dy (w8 (aC rfl (aC (av rfl (JG (n:=n+1) (D1 hw) hs)) rfl)) (Di (n:=n+3) (D1 hw))) (Dw rfl hr))
  (sX (pv rfl Dz (av rfl e33) (Dx rfl hp)) (sA (bn rfl (n0 (ci rfl rfl (Df xM Am)) rfl) rfl) rfl))))
theorem xO(hw:Wf H)(o:f.Ok)(hg:f.good=true):∀(ks:List (List Nat))(b:Nat)(rs ps:List V)(x6 x7:Option V),(∀k∈ks,k∈f.ks)->rs.length+ks.length<=100->ps.length+ks.length<=100->
  ∃y6 y7,bU (lp (R (n+4)) (.one 6) G8) (ks.map V.str) (sI f H.length b x6 x7) (mf H rs ps) = .ok (.next,sI f H.length (b+tot (ks.map λk=>(k,cQ f.t k))) y6 y7) (mf H (rs++(rE b (ks.map λk=>(k,cQ f.t k))).map WR.v) (ps++(ks.map λk=>(k,cQ f.t k)).map λp:bV=>.byt (aK p.2))):=by
 intro ks
 induction ks with
 |nil=>exact λb rs ps x6 x7 _ _ _=>⟨x6,x7,by show _=Out.ok _ (mf H (rs++[]) (ps++[]));rw[LW,LW];rfl⟩
 |cons k r ih=>
  intro b rs ps x6 x7 h h1 h2;have lt {a:Nat} (h:a+(r.length+1)<=100):a<aq:=LN (LB (L6 _ _) h) (by decide);have sc {l:List V} {v:V} (h:l.length+(r.length+1)<=100):(l++[v]).length+r.length<=100:=by rw[LC,Nat.add_right_comm];exact h
  obtain⟨y6,y7,e⟩:=ih (b+(aK (cQ f.t k)).length) (rs++[WR.v ⟨k,io (cQ f.t k),b,(cQ f.t k).length⟩]) (ps++[.byt (aK (cQ f.t k))]) (some (.str k)) (some (.byt (cQ f.t k))) (λx hx=>h x (LK _ hx)) (sc h1) (sc h2);refine⟨y6,y7,(bR (xN (n:=n) hw o hg (h k LL) (lt h1) (lt h2))).trans (e.trans ?_)⟩;rw[LG,LG,Mj]
  rfl
theorem DA{C:Nat->List V->Hp->Out V}{x0 x1 x2 x3 x4:Option V}{τ:ai}:ex prog C (.asgD3 2 3 4 (.lst true .nil) (.lst true .nil) .cnone) (x0::x1::x2::x3::x4::τ) H = .ok (.next,x0::x1::some (.obj H.length)::some (.obj (H.length+1))::some .none::τ) (mf H [] []):=by
 show Out.ok (Fl.next,x0::x1::some (.obj H.length)::some (.obj (H++[O.lst []]).length)::some V.none::τ) (H++[O.lst []]++[O.lst []])=_;rw[LC,LG]
 rfl
theorem xP(hw:Wf H)(o:f.Ok)(hg:f.good=true):R (n+5) 36 [.int f.v,.dct f.kv] H = .ok (.byt (fX f.v (rE (12+16*f.t.length) f.es)++nN f.es)) H:=by
 have h0:0+f.ks.length<=100:=by rw[Nat.zero_add,f.ks_len];exact LB o.few (by decide)
 obtain⟨y6,y7,e⟩:=xO (n:=n) hw o hg f.ks (12+16*f.t.length) [] [] none none (λ_ h=>h) h0 h0;rw[show(f.ks.map λk=>((k,cQ f.t k):bV))=f.es from rfl,List.nil_append,List.nil_append]at e;have ok:=xK o hg;have hrl:(rE (12+16*f.t.length) f.es).length=f.t.length:=(dC ..).trans f.es_len;have e20:=IT (n:=n+3) (k:=(f.kv.length:Int)) (D1 (rs:=[]) (ps:=[]) hw);rw[show(12:Int)+16*(f.kv.length:Int)=(12+16*f.t.length:Nat) by rw[Fnt.kv_len];rfl]at e20;have g:ak (H++[.dead,.lst (f.es.map λp:bV=>V.byt (aK p.2))]) (H.length+1)=some (.lst (f.es.map λp:bV=>V.byt (aK p.2))):=by rw[bB];rfl
 have e35:=JJ (n:=n+1) (v:=f.v) (hw.app (T:=[.dead,.lst (f.es.map λp:bV=>V.byt (aK p.2))]) rfl) (kP (f.good_ver hg)) (by rw[hrl];exact f.good_pos hg) (by rw[hrl];exact o.few) ok;have l1:(nN f.es).length<=36:=pH _▸LB (xJ (pG o)) (LX 9 (f.es_len.symm▸o.few))
 have l2:(fX f.v (rE (12+16*f.t.length) f.es)++nN f.es).length<=aq:=by
  rw[LC,cG ok,hrl];exact LB (Mf (LV (LX 16 o.few) 12) l1) (by decide)
 exact px (T:=[.dead,.dead]) rfl rfl (sX (av rfl (pF (n:=n+3) hw o hg)) (sS DA (sA (av rfl e20) (lG (n0 rfl (f.sorted (σ:=[]) o.few)) rfl e
  (sA (bn (av (aC rfl (a1 (rk rfl (fQ xL (by unfold mf;rw[bj];rfl))))) e35) (rj (rk rfl (fQ g (by rw[bC];rfl))) (me (f:=λp:bV=>aK p.2) f.es) (LB l1 (by decide))) (s6 l2)) (sR rfl)))))) rfl rfl hw
end
theorem An{f:Fnt}(hw:Wf H)(o:f.Ok)(hg:f.good=false):R (n+2) 36 [.int f.v,.dct f.kv] H = .exc H:=
 sK (T:=[]) rfl rfl ((pX (av rfl (tv (n:=n) hw o hg))).trans (by rw[LW])) hw
end J.Internal
namespace J.Internal
variable{n:Nat}{H:Hp}{i:Nat}
noncomputable abbrev Bl:=List (List UInt8)
noncomputable def bJ(l:Bl):Nat:=l.rec 0 λp _ g=>(aK p).length+g
theorem kQ:bJ []=0:=rfl
theorem kU{p:List UInt8}{r:Bl}:bJ (p::r)=(aK p).length+bJ r:=rfl
theorem kW:∀(l m:Bl),bJ (l++m)=bJ l+bJ m:=by
 intro l
 induction l with
 |nil=>
  intro m;simp[kQ,kU]
 |cons p r ih=>
  intro m;simp[kQ,kU,ih m,Nat.add_assoc]
noncomputable def ip(ps:Bl)(ts:List Nat)(b:List UInt8):List Nat:=(List.range ps.length).filter λi=>decide (ps[i]? = some b)&&!decide (i∈ts)
noncomputable def aJ(ps:Bl)(ts:List Nat)(b:List UInt8):Bl × Nat:=match ip ps ts b with
 |[]=>(ps++[b],ps.length)
 |i::_=>(ps,i)
noncomputable def spot(b0:Nat)(ps:Bl)(i:Nat):Nat:=b0+bJ (ps.take i)
noncomputable def spots(b0:Nat)(ps:Bl):List Nat:=(List.range ps.length).map (spot b0 ps)
theorem kX{b0:Nat}{ps qs:Bl}{i:Nat}(h:i<=ps.length):spot b0 (ps++qs) i=spot b0 ps i:=by
 unfold spot;rw[List.take_append_of_le_length h]
theorem uG(b0:Nat)(ps:Bl)(b:List UInt8):spots b0 (ps++[b])=spots b0 ps++[b0+bJ ps]:=by
 unfold spots;rw[LC,Mb,List.range_succ,Mh];congr 1
 ·refine List.map_congr_left λi hi=>?_;exact kX (Mu (List.mem_range.mp hi))
 ·show[spot b0 (ps++[b]) ps.length]=_;rw[kX (LZ _)];unfold spot;rw[List.take_length]
theorem uH{b0:Nat}{ps:Bl}{i:Nat}(h:i<ps.length):(spots b0 ps)[i]? = some (spot b0 ps i):=by
 unfold spots;simp[h]
theorem mh{b0:Nat}{ps:Bl}:(spots b0 ps).length=ps.length:=by simp[spots]
noncomputable abbrev Fd:=List (List Nat × Nat)
noncomputable def aH(b0:Nat)(ps:Bl)(ts:List Nat)(fd:Fd)(l:List bV):Bl × List Nat × Fd:=List.rec (motive:=λ_=>Bl->List Nat->Fd->Bl × List Nat × Fd) (λps ts fd=>(ps,ts,fd))
 (λp _ g ps ts fd=>g (aJ ps ts p.2).1 (ts++[(aJ ps ts p.2).2]) (fd++[(p.1,spot b0 (aJ ps ts p.2).1 (aJ ps ts p.2).2)])) l ps ts fd
theorem dD{b0:Nat}{ps:Bl}{ts:List Nat}{fd:Fd}:aH b0 ps ts fd []=(ps,ts,fd):=rfl
theorem dF{b0:Nat}{ps:Bl}{ts:List Nat}{fd:Fd}{p:bV}{r:List bV}:aH b0 ps ts fd (p::r)=aH b0 (aJ ps ts p.2).1 (ts++[(aJ ps ts p.2).2]) (fd++[(p.1,spot b0 (aJ ps ts p.2).1 (aJ ps ts p.2).2)]) r:=rfl
noncomputable def uV(fd:Fd):List (List Nat × V):=fd.map λp=>(p.1,.int p.2)
noncomputable def ja(H:Hp)(a b c:List V)(T:Hp)(fd:List (List Nat × V))(ts:List V):Hp:=H++(.lst a::.lst b::.lst c::(T++[.dct fd,.lst ts]))
section
variable{a b c ts:List V}{T:Hp}{fd:List (List Nat × V)}
theorem Ao:ak (ja H a b c T fd ts) H.length=some (.lst a):=by unfold ja;rw[aS];rfl
theorem DB:ak (ja H a b c T fd ts) (H.length+1)=some (.lst b):=by unfold ja;rw[bB];rfl
theorem IY:ak (ja H a b c T fd ts) (H.length+2)=some (.lst c):=by unfold ja;rw[bB];rfl
theorem FS:ak (ja H a b c T fd ts) (H.length+(T.length+3))=some (.dct fd):=by
 unfold ja;rw[bB];show ak (T++_) T.length=_;rw[aS];rfl
theorem DC:ak (ja H a b c T fd ts) (H.length+(T.length+4))=some (.lst ts):=by
 unfold ja;rw[bB];show ak (T++_) (T.length+1)=_;rw[bB];rfl
theorem FT{a':List V}:au (ja H a b c T fd ts) H.length (.lst a')=ja H a' b c T fd ts:=by unfold ja;rw[bj];rfl
theorem FU{a':List V}:au (ja H a b c T fd ts) (H.length+1) (.lst a')=ja H a a' c T fd ts:=by unfold ja;rw[bC];rfl
theorem FV{a':List (List Nat × V)}:au (ja H a b c T fd ts) (H.length+(T.length+3)) (.dct a')=ja H a b c T a' ts:=by
 unfold ja;rw[bC];show H++(_::_::_::au (T++_) T.length _)=_;rw[bj];rfl
theorem FW{a':List V}:au (ja H a b c T fd ts) (H.length+(T.length+4)) (.lst a')=ja H a b c T fd a':=by
 unfold ja;rw[bC];show H++(_::_::_::au (T++_) (T.length+1) _)=_;rw[bC];rfl
end
theorem nP{H:Hp}{i:Nat}{xs:List V}(g:ak H i=some (.lst xs)):tI (.obj i) H=true:=kA g
theorem xQ(i:Nat):∀(ts:List Nat),ln (.int i) (ts.map λk:Nat=>V.int k)=some (decide (i∈ts)):=by
 intro ts
 induction ts with
 |nil=>
  exact rfl
 |cons t r ih=>
  have ih:=ih;show pT i (V.int t::r.map λk:Nat=>V.int k)=_;show Option.map (((t:Int)==(i:Int))||·) (pT i (r.map λk:Nat=>V.int k))=_;rw[show pT i (r.map λk:Nat=>V.int k)=some (decide (i∈r))from ih];show some (((t:Int)==(i:Int))||decide (i∈r))=_;congr 1
  by_cases e:t=i
  ·subst e;simp
  ·have h1:((t:Int)==(i:Int))=false:=beq_eq_false_iff_ne.mpr (by omega);rw[h1];simp[Ne.symm e]
theorem iq{ps:Bl}{ts:List Nat}{b:List UInt8}{i:Nat}(h:i∈ip ps ts b):i<ps.length/\ps[i]? = some b/\i∉ts:=by
 unfold ip at h;simp only[List.mem_filter,List.mem_range,Bool.and_eq_true,decide_eq_true_eq,Bool.not_eq_true',decide_eq_false_iff_not]at h;exact⟨h.1,h.2.1,h.2.2⟩
set_option tactic.hygienic true in
theorem Ap{ps:Bl}{ts:List Nat}{b:List UInt8}:(aJ ps ts b).2<(aJ ps ts b).1.length:=by
 unfold aJ
 split
 ·simp
 ·rename_i i r h;exact(iq (by rw[h];simp)).1
noncomputable def pV(ps:Bl):List V:=ps.map .byt
noncomputable def kZ(l:List Nat):List V:=l.map λk:Nat=>V.int k
noncomputable def nQ(H:Hp)(b0:Nat)(ps:Bl)(c:List V)(T:Hp)(fd:Fd)(ts:List Nat):Hp:=ja H (pV ps) (kZ (spots b0 ps)) c T (uV fd) (kZ ts)
theorem BC{n:Nat}{T:Hp}:(∀o∈T,∀c fs,o≠.ins c fs)->a8 n T=true:=by
 induction T with
 |nil=>exact λ_=>rfl
 |cons o r ih=>exact λh=>aT (D8 (P:=λo b=>(∀c fs,o≠.ins c fs)->b=true) (λ_=>rfl) (λc fs h=>absurd rfl (h c fs)) (h o (.head _))) (ih λx hx=>h x (.tail _ hx))
def mi(T:Hp):Prop:=∀o∈T,∀c fs,o≠O.ins c fs
theorem Ll{b0:Nat}{ps:Bl}{c:List V}{T:Hp}{fd:Fd}{ts:List Nat}(hw:Wf H)(hT:mi T):Wf (nQ H b0 ps c T fd ts):=by
 refine hw.app (BC λo ho c fs=>?_);simp only[List.mem_cons,List.mem_append,List.mem_nil_iff,or_false]at ho;rcases ho with rfl|rfl|rfl|ho|rfl|rfl<;>first|(intro w;cases w;done)|exact hT o ho c fs
theorem Aq{H H':Hp}{i:Nat}{kvs:List (List Nat × V)}{k:List Nat}{v:V}(g:ak H i=some (.dct kvs))(hl:kvs.length<aq)(ho:v.isObj=false)(hk:k∉kvs.map (·.1))(hs:au H i (.dct (kvs++[(k,v)]))=H'):dU (.obj i) (.str k) v H = .ok () H':=(w5 g hl ho).trans (by rw[pD hk,hs])
theorem jy{xs:List V}:n6 (.lst xs) (.lst [])=some xs.isEmpty:=by
 cases xs with
 |nil=>rfl
 |cons x r=>
  show(if (x::r).length=([]:List V).length then fU (bF 5) (x::r) []else some false)=_;rw[if_neg (by simp)]
  rfl
theorem mj{x:List V}{i:Nat}{H:Hp}{m:Nat}(h:ak H i=some (.lst x))(hm:x.length=m):bG .len (.obj i) H = .ok (.int m) H:=by rw[w6 h,hm]
noncomputable def sT(x0:Option V)(m:Int)(L t:Nat)(x5:Option V)(kv:List (List Nat × V))(x9 x10:Option V):ai:=[x0,some (.int m),some (.obj L),some (.obj (L+1)),some (.obj (L+2)),x5,some (.dct kv),some (.obj (L+(t+3))),some (.obj (L+(t+4))),x9,x10,none,none]
section
variable{ps:Bl}{ts:List Nat}{fd:Fd}{b:List UInt8}{k:List Nat}{b0 L t:Nat}{c:List V}{T HH:Hp}{kv:List (List Nat × V)}{x0 x5 x9 x10:Option V}{m:Int}
theorem Ar(g2:ak HH L=some (.lst (pV ps)))(g8:ak HH (L+(t+4))=some (.lst (kZ ts)))(hd:fy kv k=some (.byt b))(hl:ps.length<=1000):ev prog (R n) Jg (sT x0 m L t x5 kv (some (.str k)) x10) HH = .ok (.lst (kZ (ip ps ts b))) HH:=by
 have hpl:(pV ps).length=ps.length:=LF _
 have hc:aE (Bu (R n) (.var 11) (.one 11) (.and (.cmp .eq (.sub (.var 2) (.var 11)) (.sub (.var 6) (.var 9))) (.cmp .notin (.var 11) (.var 8))) (sT x0 m L t x5 kv (some (.str k)) x10)) ((List.range ps.length).map λk:Nat=>V.int k) HH = .ok ((ip ps ts b).map λk:Nat=>V.int k) HH:=
  ey λi hi=>by
   have hi:=List.mem_range.mp hi;have hg:=LH hi;have e2:n6 (.byt ps[i]) (.byt b)=some (decide (ps[i]? = some b)):=congrArg some (decide_eq_decide.mpr (hg▸Option.some_inj.symm));have e1:eR (pV ps) (i:Int)=some (.byt ps[i]):=ew ((Ml ..).trans (congrArg (Option.map V.byt) hg)) (hpl▸LB hl (by decide));exact⟨xf (Bw (bM (ci rfl rfl (Df g2 e1)) (ci rfl rfl (rz hd)) (xe e2)) (bM rfl rfl ((z5 g8).trans (congrArg (λo=>optB (Option.map (!·) o) HH) (xQ i ts))))) rfl,rfl⟩
 exact(congrArg (kz false _) (ji (a1 (n0 rfl (mj g2 hpl))) (pA (LB hl (by decide))))).trans (fj bS hc)
theorem xR{i:Nat}{r:List V}{C:Nat->List V->Hp->Out V}(hi:i<ps.length)(hp:ps.length<=1001)(ht:ts.length<=1000)(hf:fd.length<=1000)(hk:k∉fd.map (·.1)):bA prog C Jh (sT x0 m H.length T.length x5 kv (some (.str k)) (some (.lst (.int i::r)))) (nQ H b0 ps c T fd ts) =
   .ok (.next,sT x0 m H.length T.length x5 kv (some (.str k)) (some (.lst (.int i::r)))) (nQ H b0 ps c T (fd++[(k,spot b0 ps i)]) (ts++[i])):=by
 have g1:ak (nQ H b0 ps c T fd (ts++[i])) (H.length+1)=some (.lst (kZ (spots b0 ps))):=DB;have s3:=Df g1 (ew (v:=.int (spot b0 ps i)) (by unfold kZ;rw[Ml,uH hi];rfl) (by unfold kZ;rw[LF,mh];exact LB hp (by decide)));exact sX (pv rfl (nP DC) rfl (fu DC rfl (by unfold kZ;rw[LF];exact LN ht (by decide)) (by unfold nQ;rw[FW];unfold kZ;rw[Mh];rfl)))
  (sS (FC (ci rfl rfl s3) rfl rfl (Aq FS (by unfold uV;rw[LF];exact LN hf (by decide)) rfl (by unfold uV;rw[L5];exact hk) (by unfold nQ;rw[FV];unfold uV;rw[Mh];rfl))) rfl)
theorem As(hw:Wf H)(hT:mi T)(hd:fy kv k=some (.byt b))(hb:b.length<=6)(hp:ps.length<=1000)(ht:ts.length<=1000)(hf:fd.length<=1000)(hk:k∉fd.map (·.1)) :
  ∃y9 y10,lp (R (n+1)) (.one 9) G9 (.str k) (sT x0 (b0+bJ ps:Nat) H.length T.length x5 kv x9 x10) (nQ H b0 ps c T fd ts) =
   .ok (.next,sT x0 (b0+bJ (aJ ps ts b).1:Nat) H.length T.length x5 kv y9 y10) (nQ H b0 (aJ ps ts b).1 c T (fd++[(k,spot b0 (aJ ps ts b).1 (aJ ps ts b).2)]) (ts++[(aJ ps ts b).2])):=by
 have hfree:=Ar (n:=n+1) (x0:=x0) (m:=(b0+bJ ps:Nat)) (x5:=x5) (x10:=x10) (HH:=nQ H b0 ps c T fd ts) (t:=T.length) Ao DC hd hp
 cases hfi:ip ps ts b with
 |cons i r=>
  have hpk:aJ ps ts b=(ps,i):=by unfold aJ;rw[hfi]
  have hil:i<ps.length:=(iq (by rw[hfi];exact LL)).1;rw[hpk];rw[hfi]at hfree;exact⟨_,_,sA hfree (sF (bM rfl rfl (xe jy)) rfl (xR hil (Nat.le_succ_of_le hp) ht hf hk))⟩
 |nil=>
  have hpk:aJ ps ts b=(ps++[b],ps.length):=by unfold aJ;rw[hfi]
  rw[hpk];rw[hfi]at hfree;have hq:(ps++[b]).length=ps.length+1:=LC;have hpl:(pV ps).length=ps.length:=LF _
  have a2:cj (.obj H.length) (.byt b) (nQ H b0 ps c T fd ts) = .ok .none (ja H (pV (ps++[b])) (kZ (spots b0 ps)) c T (uV fd) (kZ ts)):=
   fu Ao rfl (hpl▸LN hp (by decide)) (by unfold nQ;rw[FT];unfold pV;rw[Mh];rfl)
  have a3:cj (.obj (H.length+1)) (.int (b0+bJ ps:Nat)) (ja H (pV (ps++[b])) (kZ (spots b0 ps)) c T (uV fd) (kZ ts)) = .ok .none (nQ H b0 (ps++[b]) c T fd ts):=
   fu DB rfl (by unfold kZ;rw[LF,mh];exact LN hp (by decide)) (by rw[FU];unfold nQ;rw[uG];unfold kZ;rw[Mh];rfl)
  have e33:=IX (n:=n) (l:=b) (Ll (b0:=b0) (ps:=ps++[b]) (c:=c) (T:=T) (fd:=fd) (ts:=ts) hw hT) (LB hb (by decide));rw[show((b0+bJ (ps++[b]):Nat):Int)=((b0+bJ ps:Nat):Int)+((aK b).length:Int)from congrArg Nat.cast (by rw[kW,<-Mj];rfl:b0+bJ (ps++[b])=b0+bJ ps+(aK b).length)]
  exact⟨_,_,sA hfree (sS (xT (bM rfl rfl (xe jy)) rfl (sA (FD (a1 (n0 rfl (mj Ao hpl))) rfl rfl) (sX (pv rfl (nP Ao) (ci rfl rfl (rz hd)) a2) (sX (pv rfl (nP DB) rfl a3) (sA (bn rfl (n0 (av (a1 (ci rfl rfl (rz hd))) e33) rfl) rfl) rfl)))))
   (xR (hq▸Nat.lt_succ_self _) (hq▸Nat.succ_le_succ hp) ht hf hk))⟩
end
theorem pI(ps:Bl)(ts:List Nat)(b:List UInt8):(aJ ps ts b).1.length<=ps.length+1:=by
 unfold aJ
 split<;>simp
theorem mn(b0:Nat):∀(l:List bV)(ps:Bl)(ts:List Nat)(fd:Fd),(aH b0 ps ts fd l).1.length<=ps.length+l.length:=by
 intro l
 induction l with
 |nil=>exact λ_ _ _=>LZ _
 |cons q r ih=>exact λps ts fd=>LB (ih _ _ _) (LB (MB (pI ps ts q.2) _) (Ma (Nat.succ_add_eq_add_succ _ _)))
noncomputable def jz(H:Hp)(b0:Nat)(ps:Bl)(c:List V)(T:Hp):Hp:=H++(.lst (pV ps)::.lst (kZ (spots b0 ps))::.lst c::T)
theorem At{b0:Nat}{ps:Bl}{c:List V}{T:Hp}:(jz H b0 ps c T).length=H.length+(T.length+3):=by unfold jz;simp
theorem Fnt.es_keys(f:Fnt):f.es.map (·.1)=f.ks:=by unfold Fnt.es;rw[L5];simp[Function.comp_def]
theorem Fnt.ks_nodup{f:Fnt}(o:f.Ok):f.ks.Nodup:=f.ks_perm.nodup_iff.mpr o.nd
section
variable{b0:Nat}{c:List V}{T:Hp}{f:Fnt}{x0:Option V}
theorem Au{x5:Option V}(hw:Wf H)(hT:mi T)(o:f.Ok):∀(ks:List (List Nat))(ps:Bl)(ts:List Nat)(fd:Fd)(x9 x10:Option V),(∀k∈ks,k∈f.ks)->ps.length+ks.length<=1000->ts.length+ks.length<=1000->fd.length+ks.length<=1000->(fd.map (·.1)++ks).Nodup->
  ∃y9 y10,bU (lp (R (n+1)) (.one 9) G9) (ks.map V.str) (sT x0 (b0+bJ ps:Nat) H.length T.length x5 f.kv x9 x10) (nQ H b0 ps c T fd ts) =
   .ok (.next,sT x0 (b0+bJ (aH b0 ps ts fd (ks.map λk=>(k,cQ f.t k))).1:Nat) H.length T.length x5 f.kv y9 y10) (nQ H b0 (aH b0 ps ts fd (ks.map λk=>(k,cQ f.t k))).1 c T (aH b0 ps ts fd (ks.map λk=>(k,cQ f.t k))).2.2 (aH b0 ps ts fd (ks.map λk=>(k,cQ f.t k))).2.1):=by
 intro ks
 induction ks with
 |nil=>exact λ_ _ _ x9 x10 _ _ _ _ _=>⟨x9,x10,rfl⟩
 |cons k r ih=>
  intro ps ts fd x9 x10 hk hp ht hf hn;have hx:=hk k LL;have le {a:Nat} (h:a+(r.length+1)<=1000):a<=1000:=LB (L6 _ _) h;obtain⟨z9,z10,e⟩:=As (n:=n) (b0:=b0) (c:=c) (x0:=x0) (x5:=x5) (x9:=x9) (x10:=x10) hw hT (f.get hx) (Fnt.small_at o hx) (le hp) (le ht) (le hf) λw=>(List.nodup_append.mp hn).2.2 k w k LL rfl;have sc {a b:Nat} (h:a+(r.length+1)<=1000) (hb:b<=a+1):b+r.length<=1000:=LB (MB hb _) (LB (Ma (Nat.succ_add_eq_add_succ _ _)) h);obtain⟨y9,y10,e'⟩:=ih (aJ ps ts (cQ f.t k)).1 (ts++[(aJ ps ts (cQ f.t k)).2]) (fd++[(k,spot b0 (aJ ps ts (cQ f.t k)).1 (aJ ps ts (cQ f.t k)).2)]) z9 z10 (λx h=>hk x (LK _ h))
   (sc hp (pI ..)) (sc ht (Ma LC)) (sc hf (Ma LC)) (by rw[Mh,LG];exact hn)
  exact⟨y9,y10,(bR e).trans e'⟩
def GV(x0:Option V)(m:Int)(L:Nat)(σ:ai):Prop:=∃y5 y6 y7 y8 y9 y10,σ=[x0,some (.int m),some (.obj L),some (.obj (L+1)),some (.obj (L+2)),y5,y6,y7,y8,y9,y10,none,none]
theorem FX{C:Nat->List V->Hp->Out V}{ps:Bl}{x1 x2 x3 x4 x5 x6 x7 x8 x9 x10:Option V}:ex prog C (.asgD2 7 8 .dct0 (.lst true .nil)) [x0,x1,x2,x3,x4,x5,x6,x7,x8,x9,x10,none,none] (jz H b0 ps c T) = .ok (.next,[x0,x1,x2,x3,x4,x5,x6,some (.obj (H.length+(T.length+3))),some (.obj (H.length+(T.length+4))),x9,x10,none,none]) (nQ H b0 ps c T [] []):=by
 show Out.ok (Fl.next,[x0,x1,x2,x3,x4,x5,x6,some (.obj (jz H b0 ps c T).length),some (.obj (jz H b0 ps c T++[O.dct []]).length),x9,x10,none,none]) (jz H b0 ps c T++[.dct []]++[.lst []])=_;rw[LC,At,LG];unfold jz;rw[LG]
 rfl
theorem Aw{ps:Bl}{σ:ai}(hw:Wf H)(hT:mi T)(o:f.Ok)(hp:ps.length<=900)(hc:c.length<=900)(hσ:GV x0 (b0+bJ ps:Nat) H.length σ) :
  ∃σ',GV x0 (b0+bJ (aH b0 ps [] [] f.es).1:Nat) H.length σ'/\lp (R (n+1)) (.two 5 6) Ha f.V σ (jz H b0 ps c T) =
   .ok (.next,σ') (jz H b0 (aH b0 ps [] [] f.es).1 (c++[.dct (uV (aH b0 ps [] [] f.es).2.2)]) (T++[.dead,.lst (kZ (aH b0 ps [] [] f.es).2.1)])):=by
 obtain⟨y5,y6,y7,y8,y9,y10,rfl⟩:=hσ;have hk4:f.ks.length<=4:=f.ks_len▸o.few;have h0:0+f.ks.length<=1000:=by rw[Nat.zero_add];exact LB hk4 (by decide)
 obtain⟨z9,z10,e⟩:=Au (n:=n) (b0:=b0) (c:=c) (x0:=x0) (x5:=some (.int f.v)) hw hT o f.ks ps [] [] y9 y10 (λ_ h=>h) (LB (Mf hp hk4) (by decide)) h0 h0 (Fnt.ks_nodup o);have hes:(f.ks.map λk=>((k,cQ f.t k):bV))=f.es:=rfl;rw[hes]at e;generalize aH b0 ps [] [] f.es=q at *;have g7:ak (nQ H b0 q.1 c T q.2.2 q.2.1) (H.length+(T.length+3))=some (.dct (uV q.2.2)):=FS
 have hs:au (nQ H b0 q.1 c T q.2.2 q.2.1) (H.length+(T.length+3)) .dead=jz H b0 q.1 c (T++[.dead,.lst (kZ q.2.1)]):=by
  unfold nQ ja jz;rw[bC];show H++(_::_::_::au (T++_) T.length _)=_;rw[bj];rfl
 have g4:ak (jz H b0 q.1 c (T++[.dead,.lst (kZ q.2.1)])) (H.length+2)=some (.lst c):=by unfold jz;rw[bB];rfl
 exact⟨_,⟨_,_,_,_,z9,z10,rfl⟩,sS FX (lG (f.sorted (σ:=[]) o.few) rfl e (sX (pv rfl (nP IY) (rk rfl (z0 g7 hs)) (fu g4 rfl (LN hc (by decide)) (by unfold jz;rw[bC];rfl))) rfl))⟩
end
noncomputable def bk(b0:Nat)(ps:Bl)(l:List (List bV)):Bl × List Fd:=List.rec (motive:=λ_=>Bl->Bl × List Fd) (λps=>(ps,[]))
 (λes _ g ps=>((g (aH b0 ps [] [] es).1).1,(aH b0 ps [] [] es).2.2::(g (aH b0 ps [] [] es).1).2)) l ps
theorem k8{b0:Nat}{ps:Bl}:bk b0 ps []=(ps,[]):=rfl
theorem k9{b0:Nat}{ps:Bl}{es:List bV}{r:List (List bV)}:bk b0 ps (es::r)=((bk b0 (aH b0 ps [] [] es).1 r).1,(aH b0 ps [] [] es).2.2::(bk b0 (aH b0 ps [] [] es).1 r).2):=rfl
theorem uI(b0:Nat):∀(l:List (List bV))(ps:Bl)(es:List bV),bk b0 ps (l++[es])=((aH b0 (bk b0 ps l).1 [] [] es).1,(bk b0 ps l).2++[(aH b0 (bk b0 ps l).1 [] [] es).2.2]):=by
 intro l
 induction l with
 |nil=>
  intro _ _;exact rfl
 |cons q r ih=>
  intro ps es;simp only[List.cons_append,k8,k9];rw[ih _ es]
theorem xS(b0:Nat):∀(l:List (List bV))(ps:Bl),(∀es∈l,es.length<=4)->(bk b0 ps l).1.length<=ps.length+4*l.length:=by
 intro l
 induction l with
 |nil=>exact λ_ _=>LZ _
 |cons q r ih=>exact λps h=>LB (ih _ λes he=>h es (LK _ he)) (LB (MB (LB (mn b0 q ps [] []) (LV (h q LL) _)) _) (Ma (by rw[List.length_cons,Nat.mul_succ,Mj,Nat.add_comm 4])))
noncomputable def iW(ps:Bl):List UInt8:=ps.flatMap aK
theorem jA:∀(l:Bl),(iW l).length=bJ l:=by
 intro l
 induction l with
 |nil=>
  exact rfl
 |cons p r ih=>
  rw[iW,List.flatMap_cons,LC];exact congrArg ((aK p).length + ·) (ih)
noncomputable def rF(l:List Fd):List V:=l.map λfd=>.dct (uV fd)
theorem Ax{ps:Bl}{ts:List Nat}{b:List UInt8}:∀x∈(aJ ps ts b).1,x∈ps\/x=b:=by
 unfold aJ
 split
 ·intro x hx;simpa using hx
 ·intro x hx;exact .inl hx
theorem xU(b0:Nat):∀(l:List bV)(ps:Bl)(ts:List Nat)(fd:Fd),∀x∈(aH b0 ps ts fd l).1,x∈ps\/∃p∈l,x=p.2:=by
 intro l
 induction l with
 |nil=>
  intro _ _ _ x hx;exact .inl hx
 |cons q r ih=>
  intro ps ts fd x hx;simp only[dD,dF]at hx;rcases ih _ _ _ x hx with w|⟨p,hp,e⟩
  ·rcases Ax x w with w|w
   ·exact .inl w
   ·exact .inr ⟨q,LL,w⟩
  ·exact .inr ⟨p,LK _ hp,e⟩
theorem Ay(b0:Nat):∀(l:List (List bV))(ps:Bl),∀x∈(bk b0 ps l).1,x∈ps\/∃es∈l,∃p∈es,x=p.2:=by
 intro l
 induction l with
 |nil=>
  intro _ x hx;exact .inl hx
 |cons q r ih=>
  intro ps x hx;simp only[k8,k9]at hx;rcases ih _ x hx with w|⟨es,he,w⟩
  ·rcases xU b0 q ps [] [] x w with w|w
   ·exact .inl w
   ·exact .inr ⟨q,LL,w⟩
  ·exact .inr ⟨es,LK _ he,w⟩
theorem rG{l:Bl}(h:∀x∈l,x.length<=6):bJ l<=9*l.length:=by
 induction l with
 |nil=>exact LZ _
 |cons p r ih=>
  have h1:(aK p).length<=9:=by rw[dT];exact Mf (h p LL) (Mz (im p).1)
  exact LB (Mf h1 (ih λq hq=>h q (LK _ hq))) (Ma (Nat.add_comm _ _))
section
variable{b0:Nat}{fs:List Fnt}
theorem lb(o:∀f∈fs,f.Ok):∀x∈(bk b0 [] (fs.map Fnt.es)).1,x.length<=6:=λx hx=>by
 rcases Ay b0 (fs.map Fnt.es) [] x hx with w|⟨es,he,p,hp,rfl⟩
 ·cases w
 ·obtain⟨f,hf,rfl⟩:=Mc.mp he;obtain⟨k,hk,rfl⟩:=Mc.mp hp;exact Fnt.small_at (o f hf) hk
theorem lc(o:∀f∈fs,f.Ok)(hl:fs.length<=64):bJ (bk b0 [] (fs.map Fnt.es)).1<=2304:=by
 have h:=xS b0 (fs.map Fnt.es) [] λes he=>by
  obtain⟨f,hf,rfl⟩:=Mc.mp he;exact f.es_len▸(o f hf).few
 rw[LF,List.length_nil,Nat.zero_add]at h;exact LB (rG (lb o)) (LX 9 (LB h (LX 4 hl)))
theorem DD{x0:Option V}(hw:Wf H):∀(fs:List Fnt)(ps:Bl)(c:List V)(T:Hp)(σ:ai),(∀f∈fs,f.Ok)->ps.length+4*fs.length<=900->c.length+fs.length<=900->mi T->GV x0 (b0+bJ ps:Nat) H.length σ->
  ∃T' σ',mi T'/\GV x0 (b0+bJ (bk b0 ps (fs.map Fnt.es)).1:Nat) H.length σ'/\bU (lp (R (n+1)) (.two 5 6) Ha) (fs.map Fnt.V) σ (jz H b0 ps c T) = .ok (.next,σ') (jz H b0 (bk b0 ps (fs.map Fnt.es)).1 (c++rF (bk b0 ps (fs.map Fnt.es)).2) T'):=by
 intro fs
 induction fs with
 |nil=>exact λps c T σ _ _ _ hT hσ=>⟨T,σ,hT,hσ,congrArg (λc=>Out.ok (Fl.next,σ) (jz H b0 ps c T)) (LW c).symm⟩
 |cons f r ih=>
  intro ps c T σ o hp hc hT hσ;have of:=o f LL;obtain⟨σ1,h1,e1⟩:=Aw (n:=n) hw hT of (LB (L6 _ _) hp) (LB (L6 _ _) hc) hσ;have hl:=mn b0 f.es ps [] [];rw[f.es_len]at hl;obtain⟨T',σ',h2,h3,e2⟩:=ih (aH b0 ps [] [] f.es).1 (c++[.dct (uV (aH b0 ps [] [] f.es).2.2)]) (T++[.dead,.lst (kZ (aH b0 ps [] [] f.es).2.1)]) σ1 (λg hg=>o g (LK _ hg))
   (LB (MB (LB hl (LV of.few _)) _) (by rw[List.length_cons,Nat.mul_succ]at hp;rw[Mj,Nat.add_comm 4];exact hp))
   (by rw[LC,Nat.add_right_comm];exact hc)
   (λq hq=>(Mm.mp hq).elim (hT q) λw=>by
    rcases LI.mp w with rfl|w
    ·exact λ_ _ w=>by cases w
    ·exact LJ.mp w▸λ_ _ w=>by cases w) h1
  exact⟨T',σ',h2,h3,(bR e1).trans (e2.trans (congrArg (λc=>Out.ok (Fl.next,σ') (jz H b0 _ c T')) (LG _ _ _)))⟩
theorem DE{C:Nat->List V->Hp->Out V}{x0 x1 x2 x3 x4:Option V}{τ:ai}:ex prog C (.asgD3 2 3 4 (.lst true .nil) (.lst true .nil) (.lst true .nil)) (x0::x1::x2::x3::x4::τ) H = .ok (.next,x0::x1::some (.obj H.length)::some (.obj (H.length+1))::some (.obj (H.length+2))::τ) (jz H b0 [] [] []):=by
 show Out.ok (Fl.next,x0::x1::some (.obj H.length)::some (.obj (H++[O.lst []]).length)::some (.obj (H++[O.lst []]++[O.lst []]).length)::τ) (H++[O.lst []]++[O.lst []]++[O.lst []])=_;rw[LC,LC,LC,LG,LG]
 rfl
end
end J.Internal
namespace J.Internal
noncomputable section
def tz(n:Nat)(H:Hp)(b0:Nat)(fs:List Fnt):Prop:=
 ∀(hw:Wf H)(o:∀f∈fs,f.Ok)(hl:fs.length<=64),R (n+2) 37 [.lst (fs.map Fnt.V),.int b0] H = .ok (.tup [.byt (iW (bk b0 [] (fs.map Fnt.es)).1),.lst (rF (bk b0 [] (fs.map Fnt.es)).2)]) H
namespace Kf37
def z:=ep (V4 tz)
def n:=z.1
def H:=z.2.1
def b0:=z.2.2.1
def fs:=z.2.2.2
theorem T:tz n H b0 fs:=by
 intro hw o hl;obtain⟨T,σ,hT,⟨y5,y6,y7,y8,y9,y10,hσ⟩,e⟩:=DD (n:=n) (b0:=b0) (x0:=some (.lst (fs.map Fnt.V))) hw fs [] [] [] [some (.lst (fs.map Fnt.V)),some (.int b0),some (.obj H.length),some (.obj (H.length+1)),some (.obj (H.length+2)),none,none,none,none,none,none,none,none] o (by rw[List.length_nil,Nat.zero_add];exact LB (LX 4 hl) (by decide)) (by rw[List.length_nil,Nat.zero_add];exact LB hl (by decide)) (λ_ h=>(by cases h)) ⟨_,_,_,_,_,_,rfl⟩;subst hσ;have hsm:=lb (b0:=b0) o;have hb:(iW (bk b0 [] (fs.map Fnt.es)).1).length<=aq:=jA _▸LB (lc o hl) (by decide);generalize bk b0 [] (fs.map Fnt.es)=q at *
 have hW:Wf (H++(.dead::.lst (kZ (spots b0 q.1))::.lst (rF q.2)::T)):=hw.app (BC λo ho c fs=>by
  simp only[List.mem_cons]at ho
  rcases ho with rfl|rfl|rfl|ho<;>first|(intro w;cases w;done)|exact hT o ho c fs)
 have g2:ak (jz H b0 q.1 ([]++rF q.2) T) H.length=some (.lst (pV q.1)):=by unfold jz;rw[aS];rfl
 have g4:ak (H++(.dead::.lst (kZ (spots b0 q.1))::.lst (rF q.2)::T)) (H.length+2)=some (.lst (rF q.2)):=by rw[bB];rfl
 exact px (T:=.dead::.lst (kZ (spots b0 q.1))::.dead::T) rfl rfl (sS DE (lG rfl rfl e (sR (xb (aC (rj (dB (own:=false) (rk rfl (fQ g2 (by unfold jz;rw[bj];rfl))) rfl
  (aQ (k:=λx=>.byt (aK x)) λx hx=>⟨ik (av rfl (IX (n:=n) hW (LB (hsm x hx) (by decide)))),rfl⟩) rfl) (me (f:=aK) q.1) hb) (a1 (rk rfl (fQ g4 (by rw[bC];rfl))))) rfl)))) rfl rfl hw
end Kf37
end
theorem Lm{n H b0 fs}:tz n H b0 fs:=cN (p:=V4 tz) Kf37.T (n,H,b0,fs)
variable{n:Nat}{acc:List UInt8}{H:Hp}{i j:Nat}
set_option tactic.hygienic true in
theorem rH{ps:Bl}{ts:List Nat}{b:List UInt8}(h:∀i∈ts,i<ps.length):ps<+:(aJ ps ts b).1/\(aJ ps ts b).1[(aJ ps ts b).2]? = some b/\(aJ ps ts b).2∉ts/\(aJ ps ts b).2<(aJ ps ts b).1.length:=by
 refine⟨?_,?_,?_,Ap⟩
 ·unfold aJ;split
  ·exact List.prefix_append _ _
  ·exact LP _
 ·unfold aJ;split
  ·simp
  ·rename_i i r hf;exact(iq (by rw[hf];simp)).2.1
 ·unfold aJ;split
  ·intro w;exact Mg _ (h _ w)
  ·rename_i i r hf;exact(iq (by rw[hf];simp)).2.2
theorem pJ{b0:Nat}{ps qs:Bl}{i:Nat}(h:ps<+:qs)(hi:i<ps.length):spot b0 qs i=spot b0 ps i:=by
 obtain⟨r,rfl⟩:=h;exact kX (Mu hi)
theorem nR{ps qs:Bl}{i:Nat}{b:List UInt8}(h:ps<+:qs)(e:ps[i]? = some b):qs[i]? = some b:=by
 obtain⟨r,rfl⟩:=h;have:=(LE.mp e).1;rw[LS this,e]
theorem pK(b0:Nat):∀(l:List bV)(ps:Bl)(ts:List Nat)(fd:Fd),(∀i∈ts,i<ps.length)->ts.Nodup->
  ps<+:(aH b0 ps ts fd l).1/\∃is:List Nat,is.length=l.length/\(ts++is).Nodup/\(∀i∈ts++is,i<(aH b0 ps ts fd l).1.length)/\
   (∀j (hj:j<l.length) (hi:j<is.length),(aH b0 ps ts fd l).1[is[j]]? = some l[j].2)/\
   (aH b0 ps ts fd l).2.2=fd++List.zipWith (λp i=>(p.1,spot b0 (aH b0 ps ts fd l).1 i)) l is:=by
 intro l
 induction l with
 |nil=>exact λps ts fd h hn=>⟨LP _,[],rfl,by simpa using hn,by simpa[dD,dF]using h,λj hj=>by simp at hj,by simp[dD,dF]⟩
 |cons p r ih=>
  intro ps ts fd h hn;obtain⟨p1,p2,p3,p4⟩:=rH (b:=p.2) h;have hle:ps.length<=(aJ ps ts p.2).1.length:=p1.length_le
  have h':∀i∈ts++[(aJ ps ts p.2).2],i<(aJ ps ts p.2).1.length:=λi hi=>by
   rcases Mm.mp hi with w|w
   ·have:=h i w;omega
   ·rw[LJ.mp w];exact p4
  have hn':(ts++[(aJ ps ts p.2).2]).Nodup:=by
   rw[List.nodup_append];exact⟨hn,by simp,λa ha b hb=>by rw[List.mem_singleton.mp hb];intro w;subst w;exact p3 ha⟩
  obtain⟨q1,is,q2,q3,q4,q5,q6⟩:=ih (aJ ps ts p.2).1 (ts++[(aJ ps ts p.2).2]) (fd++[(p.1,spot b0 (aJ ps ts p.2).1 (aJ ps ts p.2).2)]) h' hn';simp only[dD,dF];refine⟨p1.trans q1,(aJ ps ts p.2).2::is,by simp[q2],by simpa using q3,by simpa using q4,λj hj hi=>?_,?_⟩
  ·cases j with
   |zero=>exact nR q1 p2
   |succ j=>exact q5 j (by simpa using hj) (by simpa using hi)
  ·rw[q6,LG];congr 1;simp only[List.zipWith_cons_cons,List.singleton_append];rw[pJ q1 p4]
structure Placed(b0:Nat)(PS:Bl)(es:List bV)(fd:Fd):Prop where
 ex:∃is:List Nat,is.length=es.length/\is.Nodup/\(∀j (hj:j<es.length) (hi:j<is.length),PS[is[j]]? = some es[j].2)/\fd=List.zipWith (λp i=>(p.1,spot b0 PS i)) es is
theorem Placed.up{b0:Nat}{ps qs:Bl}{es:List bV}{fd:Fd}(h:Placed b0 ps es fd)(hp:ps<+:qs):Placed b0 qs es fd:=by
 obtain⟨is,h1,h2,h3,h4⟩:=h.ex;refine⟨is,h1,h2,λj hj hi=>nR hp (h3 j hj hi),?_⟩;rw[h4];refine List.ext_getElem (by simp) λj hj hj'=>?_;simp only[List.length_zipWith]at hj;simp only[List.getElem_zipWith];have:=h3 j (by omega) (by omega);rw[pJ hp (LE.mp this).1]
theorem ez(b0:Nat):∀(l:List (List bV))(ps:Bl),ps<+:(bk b0 ps l).1/\(bk b0 ps l).2.length=l.length/\∀a (ha:a<l.length) (hb:a<(bk b0 ps l).2.length),Placed b0 (bk b0 ps l).1 l[a] (bk b0 ps l).2[a]:=by
 intro l
 induction l with
 |nil=>exact λps=>⟨LP _,rfl,λa ha=>by simp at ha⟩
 |cons es r ih=>
  intro ps;obtain⟨q1,is,q2,q3,q4,q5,q6⟩:=pK b0 es ps [] [] (λi hi=>(by cases hi)) .nil;obtain⟨w1,w2,w3⟩:=ih (aH b0 ps [] [] es).1;simp only[k8,k9];refine⟨q1.trans w1,by simp[w2],λa ha hb=>?_⟩
  cases a with
  |zero=>exact Placed.up ⟨is,q2,by simpa using q3,q5,by simpa using q6⟩ w1
  |succ a=>exact w3 a (by simpa using ha) (by simpa using hb)
noncomputable def DF(l:Fd)(x:List Nat):Nat:=GU 0 l x
theorem Az{fd:Fd}{k:List Nat}(h:k∈fd.map (·.1)):fy (uV fd) k=some (.int (DF fd k)):=xI (g:=λk:Nat=>V.int k) h
theorem AA{fd:Fd}:(fd.map (·.1)).Nodup->∀j (h:j<fd.length),DF fd fd[j].1=fd[j].2:=by
 induction fd with
 |nil=>exact λ_ j h=>absurd h (Mw j)
 |cons p r ih=>
  intro hn j h;have hn':=Mp.mp hn
  cases j with
  |zero=>exact if_pos rfl
  |succ j=>exact(if_neg λw=>hn'.1 (Mc.mpr ⟨r[j]'(Mn h),List.getElem_mem _,w.symm⟩)).trans (ih hn'.2 j (Mn h))
noncomputable def cM(f:Fnt)(fd:Fd):List WR:=f.ks.map λk=>⟨k,io (cQ f.t k),DF fd k,(cQ f.t k).length⟩
theorem tA{b0:Nat}{PS:Bl}{f:Fnt}{fd:Fd}(o:f.Ok)(h:Placed b0 PS f.es fd):fd.map (·.1)=f.ks/\∃is:List Nat,is.length=f.ks.length/\is.Nodup/\∀j (hj:j<f.ks.length) (hi:j<is.length),DF fd f.ks[j]=spot b0 PS is[j]/\PS[is[j]]? = some (cQ f.t f.ks[j]):=by
 obtain⟨is,h1,h2,h3,h4⟩:=h.ex;have he:f.es.length=f.ks.length:=by unfold Fnt.es;simp
 have hk:fd.map (·.1)=f.ks:=by
  rw[h4];refine List.ext_getElem (by simp[h1,he]) λj hj hj'=>?_;simp[Fnt.es]
 refine⟨hk,is,h1.trans he,h2,λj hj hi=>?_⟩;have hfd:fd.length=f.ks.length:=by have:=congrArg List.length hk;simpa using this
 have g1:=AA (fd:=fd) (by rw[hk];exact Fnt.ks_nodup o) j (hfd▸hj)
 have g2:fd[j]'(hfd▸hj)=(f.ks[j],spot b0 PS is[j]):=by
  have:fd[j]? = some (f.ks[j],spot b0 PS is[j]):=by
   rw[h4,List.getElem?_zipWith];rw[LH (he▸hj),LH hi];simp[Fnt.es]
  exact(LE.mp this).2
 rw[g2]at g1;have g3:=h3 j (he▸hj) hi;simp only[Fnt.es,List.getElem_map]at g3;exact⟨g1,g3⟩
theorem iu:∀(ps:Bl)(i:Nat),bJ (ps.take i)<=bJ ps
 |[],i=>by simp
 |p::r,0=>by simp[kQ,kU]
 |p::r,i+1=>by simp only[List.take_succ_cons,kQ,kU];have:=iu r i;omega
theorem AB(b0:Nat)(ps:Bl)(i:Nat):spot b0 ps i<=b0+bJ ps:=LV (iu ps i) b0
noncomputable def pR(f:Fnt):Nat:=12+16*f.t.length
noncomputable def gB(w:Nat)(l:List Fnt):Nat:=List.rec (motive:=λ_=>Nat->Nat) (λw=>w) (λf _ g w=>g (w+pR f)) l w
noncomputable def fw(w:Nat)(l:List Fnt):List UInt8:=List.rec (motive:=λ_=>Nat->List UInt8) (λ_=>[]) (λf _ g w=>cD w++g (w+pR f)) l w
theorem GW(w:Nat):∀(l m:List Fnt),gB w (l++m)=gB (gB w l) m:=by
 intro l
 induction l generalizing w with
 |nil=>intro m;rfl
 |cons f r ih=>intro m;exact ih _ m
theorem lf(w:Nat):∀(l:List Fnt),(fw w l).length=4*l.length:=by
 intro l
 induction l generalizing w with
 |nil=>rfl
 |cons g r ih=>exact(congrArg (· + 4) (ih _):(fw _ r).length+4=_)
theorem DG(w:Nat):∀(l:List Fnt),w<=gB w l:=by
 intro l
 induction l generalizing w with
 |nil=>exact LZ _
 |cons g r ih=>exact LB (L6 _ _) (ih _)
theorem xV(w:Nat):∀(l:List Fnt),(∀f∈l,f.t.length<=4)->gB w l<=w+76*l.length/\w<=gB w l:=by
 intro l;refine λh=>⟨?_,DG w l⟩
 induction l generalizing w with
 |nil=>exact LZ _
 |cons g r ih=>
  have h1:pR g<=76:=LV (LX 16 (h g LL)) 12;exact LB (ih _ λf hf=>h f (LK _ hf)) (LB (MB (LV h1 w) _) (Ma (by rw[List.length_cons,Nat.mul_succ,Mj,Nat.add_comm 76])))
noncomputable def iw(m:Nat):List UInt8:=cD 1953784678++(cD 65536++cD m)
noncomputable def sC(x0:Option V)(L:Nat)(w:Int)(y3 y4:Option V):ai:=[x0,some (.obj L),some (.int w),y3,y4,none,none,none,none,none]
section
variable{f:Fnt}{fs:List Fnt}{w:Nat}{x0 y3 y4:Option V}
theorem AC(hw:Wf H)(o:f.Ok)(hg:f.good=true)(hwl:w<4294967296)(hl:(acc++cD w).length<=aq) :
  lp (R (n+2)) (.two 3 4) D4 f.V (sC x0 H.length w y3 y4) (oO H acc) = .ok (.next,sC x0 H.length (w+pR f:Nat) (some (.int f.v)) (some (.dct f.kv))) (oO H (acc++cD w)):=by
 rw[show((w+pR f:Nat):Int)=(w:Int)+(12+16*(f.kv.length:Int)) by rw[Fnt.kv_len];rfl];exact sX (av rfl (pF (n:=n+1) (xu hw) o hg)) (sX (dA rfl (cq rfl) rfl (Bz hw hwl hl)) (sA (bn rfl (av rfl (IT (n:=n+1) (xu hw))) rfl) rfl))
theorem xW(hw:Wf H):∀(fs:List Fnt)(w:Nat)(acc:List UInt8)(y3 y4:Option V),(∀f∈fs,f.Ok)->w+76*fs.length<=10000->acc.length+4*fs.length<=2000->
  (fs.all Fnt.good=true->∃z3 z4,bU (lp (R (n+2)) (.two 3 4) D4) (fs.map Fnt.V) (sC x0 H.length w y3 y4) (oO H acc) = .ok (.next,sC x0 H.length (gB w fs) z3 z4) (oO H (acc++fw w fs)))/\
  (fs.all Fnt.good=false->∃acc',bU (lp (R (n+2)) (.two 3 4) D4) (fs.map Fnt.V) (sC x0 H.length w y3 y4) (oO H acc) = .exc (oO H acc')):=by
 intro fs
 induction fs with
 |nil=>exact λw acc y3 y4 _ _ _=>⟨λ_=>⟨y3,y4,by rw[fw,LW];rfl⟩,λh=>(by cases h)⟩
 |cons f r ih=>
  intro w acc y3 y4 o h1 h2;have of:=o f LL
  cases hg:f.good with
  |false=>exact⟨λh=>(by rw[List.all_cons,hg]at h;cases h),λ_=>⟨acc,xg (pX (av rfl (tv (n:=n+1) (xu hw) of hg)))⟩⟩
  |true=>
   have h3:(acc++cD w).length+4*r.length<=2000:=LB (Ma (by rw[LC,List.length_cons,Nat.mul_succ,Nat.add_comm (4*r.length),Mj];rfl)) h2;have h4:pR f<=76:=LV (LX 16 of.few) 12;have e:=AC (n:=n) (x0:=x0) (y3:=y3) (y4:=y4) (acc:=acc) hw of hg (LN (LB (L6 _ _) h1) (by decide)) (LB (L6 _ _) (LB h3 (by decide)));obtain⟨i1,i2⟩:=ih (w+pR f) (acc++cD w) (some (.int f.v)) (some (.dct f.kv)) (λg hg=>o g (LK _ hg)) (LB (MB (LV h4 w) _) (LB (Ma (by rw[List.length_cons,Nat.mul_succ,Mj,Nat.add_comm 76])) h1)) h3;rw[List.all_cons,hg,Bool.true_and];exact⟨λh=>(i1 h).elim λz3 q=>q.elim λz4 q=>⟨z3,z4,(bR e).trans (q.trans (congrArg (λl=>Out.ok (Fl.next,sC x0 H.length (gB w (f::r)) z3 z4) (oO H l)) (LG _ _ _)))⟩,λh=>(i2 h).elim λa q=>⟨a,(bR e).trans q⟩⟩
theorem xY(hw:Wf H):R (n+1) 38 [.lst []] H = .exc H:=by
 refine sK (T:=[]) rfl rfl ?_ hw;rw[LW]
 rfl
theorem nS:bG .len (.lst (fs.map Fnt.V)) H = .ok (.int fs.length) H:=by rw[sZ,LF]
theorem pL(hw:Wf H)(h1:1<=fs.length)(h64:fs.length<=64){r:Out (Fl × ai)}
  (hr:sL (R (n+3)) Hd (bU (lp (R (n+3)) (.two 3 4) D4) (fs.map Fnt.V) (sC (some (.lst (fs.map Fnt.V))) H.length (12+4*fs.length:Nat) none none) (oO H (iw fs.length)))=r) :
  bA prog (R (n+3)) Ji [some (.lst (fs.map Fnt.V)),none,none,none,none,none,none,none,none,none] H=r:=by
 have a3:=Bz (n:=n+1) (m:=fs.length) (acc:=cD 1953784678++cD 65536) hw (LN h64 (by decide)) (by decide:12<=aq);rw[LG]at a3;exact sF (rn (s7 rfl (n0 rfl nS) (xd (decide_eq_true (Mi.mpr h1))) rfl (xd (decide_eq_true (LU.mpr h64))))) rfl
  (sA (w8 rfl (FR (n:=n+2) hw)) (sX (dA rfl (cq rfl) rfl (Bz (m:=1953784678) (acc:=[]) hw (by decide) (by decide:4<=aq)))
  (sX (dA rfl (cq rfl) rfl (Bz (m:=65536) (acc:=cD 1953784678) hw (by decide) (by decide:8<=aq)))
  (sX (dA rfl (cq rfl) (a1 (n0 rfl nS)) a3) (sA (bn rfl (bn rfl (n0 rfl nS) (pw (by decide))) rfl) (sN (ii (v:=.lst (fs.map Fnt.V)) rfl) hr))))))
theorem AD(hw:Wf H)(o:∀f∈fs,f.Ok)(h64:fs.length<=64)(hb:fs.all Fnt.good=false):R (n+4) 38 [.lst (fs.map Fnt.V)] H = .exc H:=by
 have hpos:1<=fs.length:=by cases fs with|nil=>cases hb|cons _ _=>exact Ms _
 obtain⟨acc,e⟩:=(xW (n:=n+1) (x0:=some (.lst (fs.map Fnt.V))) hw fs (12+4*fs.length) (iw fs.length) none none o (by omega) (LB (LV (LX 4 h64) 12) (by decide))).2 hb;exact sK (T:=[.ins 1 [(2,.obj (H.length+1))],.ba acc]) rfl rfl (pL (n:=n) hw hpos h64 (by rw[e];rfl)) hw
end
noncomputable def eH(f:Fnt)(fd:Fd):List UInt8:=fX f.v (cM f fd)
theorem eA{f:Fnt}{fd:Fd}:(cM f fd).length=f.t.length:=by unfold cM;rw[LF,f.ks_len]
structure nT(f:Fnt)(fd:Fd):Prop where
 keys:fd.map (·.1)=f.ks
 lt:∀k∈f.ks,DF fd k<4294967296
theorem fR{f:Fnt}{fd:Fd}(o:f.Ok)(hg:f.good=true)(h:nT f fd):∀r∈cM f fd,r.Ok:=λr hr=>by
 obtain⟨k,hk,rfl⟩:=Mc.mp hr;have h4:=kM (f.good_keys hg k hk);have hs:=Fnt.small_at o hk;exact⟨h4.1,h4.2,ti _,h.lt k hk,by show(cQ f.t k).length<_;omega⟩
noncomputable def sW(x0 x1 x2 x3:Option V)(f:Fnt)(x5:Option V)(pls:List Fd)(k:Nat)(x8:Option V):ai:=[x0,x1,x2,x3,some (.dct f.kv),x5,some (.lst (rF pls)),some (.int k),x8,none]
section
variable{fs:List Fnt}{pls:List Fd}{f:Fnt}{fd:Fd}{k:Nat}{x0 x1 x2 x3 x4 x5 x7 x8:Option V}
theorem AE{HH:Hp}(hw:Wf HH)(o:f.Ok)(hg:f.good=true)(h:nT f fd)(hp:pls[k]? = some fd)(hl:pls.length<=64) :
  ev prog (R (n+4)) (.comp false Hb (.one 9) (.b1 .sorted (.var 4))) (sW x0 x1 x2 x3 f x5 pls k x8) HH = .ok (.lst ((cM f fd).map WR.v)) HH:=by
 have ep:eR (rF pls) (k:Int)=some (.dct (uV fd)):=ew (by unfold rF;rw[Ml,hp];rfl) (by unfold rF;rw[LF];exact LB hl (by decide))
 have hc:aE (cp (R (n+4)) Hb (.one 9) (sW x0 x1 x2 x3 f x5 pls k x8)) (f.ks.map V.str) HH = .ok (f.ks.map λt=>WR.v ⟨t,io (cQ f.t t),DF fd t,(cQ f.t t).length⟩) HH:=
  aQ λt ht=>
   have hd:=f.get ht
   ⟨ik (w8 (aC rfl (aC (av (aC rfl (a1 (ci rfl rfl (rz hd)))) (Lj (n:=n) hw (kK (f.good_keys hg t ht)) (LB (Fnt.small_at o ht) (by decide)))) (aC (ci (ci rfl rfl (nG ep)) rfl (rz (Az (h.keys▸ht)))) (aC (n0 (ci rfl rfl (rz hd)) rfl) (a1 rfl))))) (Di (n:=n+3) hw)),rfl⟩
 refine dB (own:=false) (n0 rfl (f.sorted (σ:=[]) o.few)) rfl hc ?_;unfold cM;rw[L5]
 rfl
theorem AF(hw:Wf H)(o:f.Ok)(hg:f.good=true)(h:nT f fd)(hf:fs[k]? = some f)(hfl:fs.length<=64)(hp:pls[k]? = some fd)(hl:pls.length<=64)(hal:acc.length<=10000) :
  lp (R (n+4)) (.one 7) Ge (.int k) [some (.lst (fs.map Fnt.V)),some (.obj H.length),x2,x3,x4,x5,some (.lst (rF pls)),x7,x8,none] (oO H acc) =
   .ok (.next,[some (.lst (fs.map Fnt.V)),some (.obj H.length),x2,some (.int f.v),some (.dct f.kv),x5,some (.lst (rF pls)),some (.int k),some (.lst ((cM f fd).map WR.v)),none]) (oO H (acc++eH f fd)):=by
 have ro:=fR o hg h;have hrl:=eA (f:=f) (fd:=fd);have ef:eR (fs.map Fnt.V) (k:Int)=some f.V:=ew (by rw[Ml,hf];rfl) (by rw[LF];exact LB hfl (by decide));have h4:(cM f fd).length<=4:=hrl▸o.few;have e35:=JJ (n:=n+1) (v:=f.v) (xu (acc:=acc) hw) (kP (f.good_ver hg)) (hrl▸f.good_pos hg) h4 ro;have e15:=JE (n:=n+3) (acc:=acc) (x:=eH f fd) hw (by rw[LC];exact LB (Mf hal (LB (Ma (cG ro)) (LV (LX 16 h4) 12))) (by decide));exact GS (ci rfl rfl (nG ef)) (sA (AE (n:=n) (x0:=some (.lst (fs.map Fnt.V))) (x1:=some (.obj H.length)) (x2:=x2) (x3:=some (.int f.v)) (x5:=x5) (x8:=x8) (xu hw) o hg h hp hl) (sX (dA rfl (cq rfl) (a1 (av rfl e35)) e15) rfl))
end
noncomputable def bT(l:List Fnt):List Fd->List UInt8:=l.rec (λ_=>[]) λf _ g s=>s.casesOn [] λfd s=>eH f fd++g s
theorem AG{α:Type}{k:Nat}{x:α}{P:Prop}(h:([]:List α)[k]? = some x):P:=by simp at h
theorem rI(fs:List Fnt):∀(pls:List Fd)(k:Nat){f:Fnt}{fd:Fd},fs[k]? = some f->pls[k]? = some fd->bT (fs.take (k+1)) (pls.take (k+1))=bT (fs.take k) (pls.take k)++eH f fd:=by
 induction fs with
 |nil=>exact λ_ _ _ _ h=>AG h
 |cons f r ih=>
  intro pls k f' fd h1 h2
  cases pls with
  |nil=>exact AG h2
  |cons p s=>
   cases k with
   |zero=>cases LM h1;cases LM h2;exact LW _
   |succ k=>exact(congrArg (eH f p++·) (ih s k h1 h2)).trans (LG ..).symm
noncomputable def eQ(fs:List Fnt):List UInt8:=iw fs.length++(fw (12+4*fs.length) fs++(bT fs (bk (gB (12+4*fs.length) fs) [] (fs.map Fnt.es)).2++iW (bk (gB (12+4*fs.length) fs) [] (fs.map Fnt.es)).1))
theorem uJ{fs:List Fnt}:∀{pls:List Fd},(∀f∈fs,f.Ok)->(∀f∈fs,f.good=true)->(∀(k:Nat)(f:Fnt)(fd:Fd),fs[k]? = some f->pls[k]? = some fd->nT f fd)->(bT fs pls).length<=76*fs.length:=by
 induction fs with
 |nil=>exact λ_ _ _=>Mr _
 |cons f r ih=>
  intro pls o g h
  cases pls with
  |nil=>exact Mr _
  |cons fd s=>
   have of:=o f (.head _);have hl:=cG (v:=f.v) (fR of (g f (.head _)) (h 0 f fd rfl rfl));have:(eH f fd).length<=76:=LB (Ma hl) (by have:=of.few;rw[eA];omega);exact LB (Ma LC) (LB (Mf this (ih (λx hx=>o x (.tail _ hx)) (λx hx=>g x (.tail _ hx)) λk f fd h1 h2=>h (k+1) f fd h1 h2)) (Ma (Nat.add_comm _ _)))
theorem BD{fs:List Fnt}{b0:Nat}(o:∀f∈fs,f.Ok)(hl:fs.length<=64)(hb:b0<=100000){k:Nat}{f:Fnt}{fd:Fd}(h1:fs[k]? = some f)(h2:(bk b0 [] (fs.map Fnt.es)).2[k]? = some fd) :
  Placed b0 (bk b0 [] (fs.map Fnt.es)).1 f.es fd/\nT f fd/\bJ (bk b0 [] (fs.map Fnt.es)).1<=2304:=by
 obtain⟨p1,p2,p3⟩:=ez b0 (fs.map Fnt.es) [];have hk:=(LE.mp h1).1;have hk2:=(LE.mp h2).1;have e1:=(LE.mp h1).2;have e2:=(LE.mp h2).2;have P:=p3 k (by rw[LF];exact hk) hk2;rw[List.getElem_map,e1,e2]at P;have of:=o f (List.mem_of_getElem? h1);have ht:=lc (b0:=b0) o hl;obtain⟨r1,is,r2,r3,r4⟩:=tA of P;refine⟨P,⟨r1,λt ht'=>?_⟩,ht⟩;obtain⟨j,hj,rfl⟩:=List.getElem_of_mem ht';rw[(r4 j hj (r2▸hj)).1];exact LN (LB (AB b0 (bk b0 [] (fs.map Fnt.es)).1 (is[j]'(r2▸hj))) (Mf hb ht)) (by decide)
theorem nU{α:Type}{l:List α}{k j:Nat}{x:α}(h:(l.take k)[j]? = some x):l[j]? = some x:=by
 rw[List.getElem?_take]at h
 by_cases w:j<k
 ·rw[if_pos w]at h;exact h
 ·rw[if_neg w]at h;cases h
theorem tB{fs:List Fnt}{pls:List Fd}(o:∀f∈fs,f.Ok)(hg:∀f∈fs,f.good=true)(hfd:∀(k:Nat)(f:Fnt)(fd:Fd),fs[k]? = some f->pls[k]? = some fd->nT f fd)(h64:fs.length<=64)(k:Nat):(bT (fs.take k) (pls.take k)).length<=4864:=
 LB (uJ (λf hf=>o f (List.mem_of_mem_take hf)) (λf hf=>hg f (List.mem_of_mem_take hf)) λj f fd g1 g2=>hfd j f fd (nU g1) (nU g2)) (LX 76 (LB (List.length_take_le' _ _) h64))
end J.Internal
namespace J.Internal
noncomputable section
def ix(n:Nat)(H:Hp)(fs:List Fnt)(pls:List Fd)(A:List UInt8)(x:List UInt8)(w:Int)(y3:Option V)(y4:Option V):Prop:=
 ∀(hw:Wf H)(o:∀f∈fs,f.Ok)(hg:∀f∈fs,f.good=true)(hfd:∀(k:Nat) (f:Fnt) (fd:Fd),fs[k]? = some f->pls[k]? = some fd->nT f fd)(h64:fs.length<=64)(hpl:pls.length=fs.length)(hA:A.length<=1000),∃σ,bU (lp (R (n+4)) (.one 7) Ge) ((List.range fs.length).map λk:Nat=>V.int k) [some (.lst (fs.map Fnt.V)),some (.obj H.length),some (.int w),y3,y4,some (.byt x),some (.lst (rF pls)),none,none,none] (oO H A) = .ok (.next,some (.lst (fs.map Fnt.V))::some (.obj H.length)::some (.int w)::σ) (oO H (A++bT fs pls))/\aV σ 2=some (.byt x)
namespace Kw2_all
def z:=ep (V9 ix)
def H:=z.2.1
def fs:=z.2.2.1
def pls:=z.2.2.2.1
def A:=z.2.2.2.2.1
def x:=z.2.2.2.2.2.1
def w:=z.2.2.2.2.2.2.1
def y3:=z.2.2.2.2.2.2.2.1
def y4:=z.2.2.2.2.2.2.2.2
theorem T:ix z.1 H fs pls A x w y3 y4:=by
 intro hw o hg hfd h64 hpl hA;obtain⟨σ',H',e,hS,z3,z4,z7,z8,hσ⟩:=dl (f:=lp (R (z.1+4)) (.one 7) Ge) (g:=λk:Nat=>V.int k) (λpre σ H'=>H'=oO H (A++bT (fs.take pre.length) (pls.take pre.length))/\∃y3 y4 y7 y8,σ=[some (.lst (fs.map Fnt.V)),some (.obj H.length),some (.int w),y3,y4,some (.byt x),some (.lst (rF pls)),y7,y8,none]) (List.range fs.length)
  (σ:=[some (.lst (fs.map Fnt.V)),some (.obj H.length),some (.int w),y3,y4,some (.byt x),some (.lst (rF pls)),none,none,none]) (H:=oO H A) ⟨(congrArg (oO H) (LW A)).symm,_,_,_,_,rfl⟩ λpre x post he σ H1 ⟨hH,y3,y4,y7,y8,hσ⟩=>by
   subst hH;subst hσ;obtain⟨hx,_,hlt⟩:=cC he;subst hx;have g1:fs[pre.length]? = some fs[pre.length]:=LH hlt;have g2:pls[pre.length]? = some (pls[pre.length]'(hpl▸hlt)):=LH _;have hm:=List.getElem_mem hlt;refine⟨_,_,AF hw (o _ hm) (hg _ hm) (hfd _ _ _ g1 g2) g1 h64 g2 (hpl▸h64) (by rw[LC];exact LB (Mf hA (tB o hg hfd h64 _)) (by decide)),?_,_,_,_,_,rfl⟩;rw[LC,Mb,rI fs pls pre.length g1 g2,LG]
 rw[Mk,List.take_length,<-hpl,List.take_length]at hS;subst hS;subst hσ;exact⟨_,e,rfl⟩
end Kw2_all
end
theorem DH{n H fs pls A x w y3 y4}:ix n H fs pls A x w y3 y4:=cN (p:=V9 ix) Kw2_all.T (n,H,fs,pls,A,x,w,y3,y4)
variable{n:Nat}{acc:List UInt8}{H:Hp}
theorem xZ{fs:List Fnt}(hw:Wf H)(o:∀f∈fs,f.Ok)(hg:∀f∈fs,f.good=true)(h1:1<=fs.length)(h64:fs.length<=64):R (n+5) 38 [.lst (fs.map Fnt.V)] H = .ok (.byt (eQ fs)) H:=by
 have hwh:=xV (12+4*fs.length) fs λf hf=>(o f hf).few;have hall:fs.all Fnt.good=true:=L9.mpr hg;obtain⟨y3,y4,e1⟩:=(xW (n:=n+2) (x0:=some (.lst (fs.map Fnt.V))) hw fs (12+4*fs.length) (iw fs.length) none none o (by lia) (LB (LV (LX 4 h64) 12) (by decide))).1 hall;have e37:=Lm (n:=n+2) (b0:=gB (12+4*fs.length) fs) (xu (acc:=iw fs.length++fw (12+4*fs.length) fs) hw) o h64;have hfd:=λk f fd g1 g2=>(BD (fs:=fs) (b0:=gB (12+4*fs.length) fs) (k:=k) (f:=f) (fd:=fd) o h64 (by omega) g1 g2).2.1;have hpl:=(ez (gB (12+4*fs.length) fs) (fs.map Fnt.es) []).2.1;rw[LF]at hpl;have jz:(iW (bk (gB (12+4*fs.length) fs) [] (fs.map Fnt.es)).1).length<=2304:=jA _▸lc o h64;unfold eQ;generalize bk (gB (12+4*fs.length) fs) [] (fs.map Fnt.es)=q at *;rw[<-LG,<-LG]
 have hAl:(iw fs.length++fw (12+4*fs.length) fs).length<=1000:=by
  rw[LC,lf];exact LB (LV (LX 4 h64) 12) (by decide)
 generalize iw fs.length++fw (12+4*fs.length) fs=A at *;obtain⟨σ,e2,h5⟩:=DH (n:=n) (A:=A) (x:=iW q.1) (w:=gB (12+4*fs.length) fs) (y3:=y3) (y4:=y4) hw o hg hfd h64 hpl hAl;have hd4:=tB o hg hfd h64 fs.length;rw[List.take_length,<-hpl,List.take_length]at hd4;have e15:=JE (n:=n+3) (acc:=A++bT fs q.2) (x:=iW q.1) hw (by rw[LC,LC];exact LB (Mf (Mf hAl hd4) jz) (by decide));exact px (T:=[.ins 1 [(2,.obj (H.length+1))],.ba (A++bT fs q.2++iW q.1)]) rfl rfl (pL (n:=n+1) hw h1 h64 ((congrArg (sL _ Hd) e1).trans (GS (av rfl e37) (lG (ji (a1 (n0 rfl nS)) (pA (LB h64 (by decide)))) bS e2 (sX (dA rfl (cq rfl) (a1 (congrArg (optV · _) h5)) e15) (sR (dA rfl (cq rfl) rfl (JF (n:=n+3) hw)))))))) rfl rfl hw
end J.Internal
namespace J.Internal
variable{n:Nat}
theorem FY{p x s:List UInt8}:sl (p++(x++s)) (p.length:Nat) (x.length:Nat)=x:=by
 unfold sl;rw[show((p.length:Int)+(x.length:Int)).toNat=p.length+x.length by lia,Int.toNat_natCast];rw[<-LG,List.take_append_of_le_length (by simp),List.take_of_length_le (by simp)];simp
theorem dm{d p x s:List UInt8}{a c:Int}(h:d=p++(x++s))(ha:a=(p.length:Nat))(hc:c=(x.length:Nat)):sl d a c=x:=by
 subst h;subst ha;subst hc;exact FY
theorem ya{l:List Nat}(h:∀c∈l,c<256):(eP l).map (·.toNat)=l:=by
 unfold eP;rw[L5]
 conv=>rhs;rw[<-List.map_id l]
 refine List.map_congr_left λc hc=>?_;have:=h c hc;simp only[Function.comp_apply,UInt8.toNat_ofNat',id];lia
theorem l4(m:Nat):(cD m).length=4:=rfl
theorem AH{d p s:List UInt8}{v c:Nat}(h:d=p++(kG v c++s))(hv:v<4294967296)(hc:c<65536):aN (sl d (p.length:Nat) 4)=v/\cK d (p.length:Nat)=c:=by
 unfold kG at h;simp only[List.append_assoc]at h;constructor
 ·rw[show sl d (p.length:Nat) 4=cD v from dm h rfl rfl,cE hv]
 ·unfold cK;rw[show sl d ((p.length:Nat)+4) 2=iV c from dm (p:=p++cD v) (by rw[LG];exact h) (by rw[LC,l4];lia) rfl,xt hc]
theorem DI{d p s:List UInt8}{r:WR}(o:r.Ok)(h:d=p++(fW r++s)):D0 d (p.length:Nat)=⟨r.tag,r.t,r.b,r.l,(p.length:Nat)⟩:=by
 unfold fW at h;simp only[List.append_assoc]at h;have lt:(eP r.tag).length=4:=by unfold eP;rw[LF,o.h4]
 have e0:sl d (p.length:Nat) 4=eP r.tag:=dm h rfl (by rw[lt];rfl);have e1:sl d ((p.length:Nat)+4) 4=cD r.t:=dm (p:=p++eP r.tag) (by rw[LG];exact h) (by rw[LC,lt];lia) rfl;have e2:sl d ((p.length:Nat)+8) 4=cD r.b:=dm (p:=p++eP r.tag++cD r.t) (by simp only[List.append_assoc];exact h) (by simp only[List.length_append,lt,l4];omega) rfl;have e3:sl d ((p.length:Nat)+12) 4=cD r.l:=dm (p:=p++eP r.tag++cD r.t++cD r.b) (s:=s) (by simp only[List.append_assoc];exact h) (by simp only[List.length_append,lt,l4];lia) rfl;unfold D0 kC;rw[e0,e1,e2,e3,ya o.hc,cE o.ht,cE o.hb,cE o.hl]
theorem yb{d:List UInt8}{bg:Int}{j:Nat}(h:j<(cf d bg).length):(cf d bg)[j]=D0 d (bg+12+(j:Int)*16):=by
 simp[cf]
theorem gi{α β:Type}(f:α->List β)(l:List α)(j:Nat)(h:j<l.length):l.flatMap f=(l.take j).flatMap f++(f l[j]++(l.drop (j+1)).flatMap f):=by
 conv=>lhs;rw[<-List.take_append_drop j l,List.drop_eq_getElem_cons h]
 rw[List.flatMap_append,List.flatMap_cons]
noncomputable def Rc.tri(r:Rc):List Nat × Int × Int:=(r.tag,r.b,r.l)
noncomputable def WR.tri(r:WR):List Nat × Int × Int:=(r.tag,(r.b:Int),(r.l:Int))
theorem DJ{d p s:List UInt8}{v:Nat}{rs:List WR}(h:d=p++(fX v rs++s))(o:∀r∈rs,r.Ok)(hc:cK d (p.length:Nat)=rs.length):(cf d (p.length:Nat)).map Rc.tri=rs.map WR.tri:=by
 refine List.ext_getElem (by rw[LF,LF,rdRs_len,hc]) λj hj hj'=>?_;rw[LF]at hj';rw[List.getElem_map,List.getElem_map,yb];have hl:=kJ (rs:=rs.take j) λr hr=>o r (List.mem_of_mem_take hr);rw[Mx,My (Mu hj')]at hl
 have:=DI (d:=d) (p:=p++(kG v rs.length++(rs.take j).flatMap fW)) (s:=(rs.drop (j+1)).flatMap fW++s) (o rs[j] (List.getElem_mem hj')) (by
  rw[h];unfold fX;rw[gi fW rs j hj'];simp only[List.append_assoc])
 rw[show(((p++(kG v rs.length++(rs.take j).flatMap fW)).length:Nat):Int)=(p.length:Int)+12+(j:Int)*16 by
  rw[LC,LC,kH,hl];lia]at this
 exact congrArg Rc.tri this
theorem uK{PS:Bl}{i:Nat}{b:List UInt8}(h:PS[i]? = some b):iW PS=iW (PS.take i)++(b++(List.replicate (nM b) 0++iW (PS.drop (i+1)))):=by
 have hi:=(LE.mp h).1;have hb:=(LE.mp h).2;have:=gi aK PS i hi;rw[hb]at this;unfold iW;rw[this];unfold aK;simp only[List.append_assoc]
theorem tC{d q:List UInt8}{PS:Bl}{i b0:Nat}{b:List UInt8}(hd:d=q++iW PS)(hq:q.length=b0)(h:PS[i]? = some b):sl d (spot b0 PS i:Nat) (b.length:Nat)=b/\spot b0 PS i+b.length<=d.length:=by
 have hs:=uK h;have hl:(q++iW (PS.take i)).length=spot b0 PS i:=by rw[LC,jA,hq];rfl
 have hd':d=(q++iW (PS.take i))++(b++(List.replicate (nM b) 0++iW (PS.drop (i+1)))):=by rw[hd,hs];simp only[List.append_assoc]
 refine⟨dm hd' (by rw[hl]) rfl,?_⟩;have:=congrArg List.length hd';rw[LC,hl,LC]at this;omega
theorem tD{PS:Bl}{b0 i j:Nat}{b:List UInt8}(h:PS[i]? = some b)(hij:i<j):spot b0 PS i+b.length<=spot b0 PS j:=by
 have hi:=(LE.mp h).1;have hb:=(LE.mp h).2;unfold spot
 have h1:PS.take j=PS.take (i+1)++(PS.take j).drop (i+1):=by
  conv=>lhs;rw[<-List.take_append_drop (i+1) (PS.take j)]
  rw[List.take_take,My (by omega)]
 rw[h1,kW,List.take_succ_eq_append_getElem hi,kW,hb];simp only[kQ,kU,dT];lia
noncomputable def Fnt.sV(f:Fnt):J.Internal.V:=.tup [.int f.v,.dct (f.ks.map λk=>(k,.byt (cQ f.t k)))]
theorem Fnt.ks_asc{f:Fnt}(o:f.Ok):∀j,(h:j+1<f.ks.length)->iA (f.ks[j]'(by omega)) f.ks[j+1]=true:=by
 intro j h;have hs:f.ks.Pairwise (λa b=>iA b a=false):=gq u4 pW _ [] .nil;have h1:=List.pairwise_iff_getElem.mp hs j (j+1) (by omega) h (by omega)
 cases h2:iA f.ks[j] f.ks[j+1]with
 |true=>rfl
 |false=>
  exfalso;have e:=oi _ _ h1 h2;have hn:=Fnt.ks_nodup o;have:=(List.getElem_inj hn).mp e;omega
theorem yc{R:List Rc}{l:List (List Nat)}(e:R.map Rc.tag=l){j:Nat}(h:j<R.length):∃h':j<l.length,R[j].tag=l[j]:=by
 subst e;exact⟨by rw[LF];exact h,(List.getElem_map ..).symm⟩
theorem yd{d p s q:List UInt8}{f:Fnt}{rs:List WR}{PS:Bl}{is:List Nat}{b0:Nat}(o:f.Ok)(hg:f.good=true)(h1:d=p++(fX f.v rs++s))(h2:d=q++iW PS)(hq:q.length=b0)(hb:p.length+12+16*rs.length<=b0)(hd:d.length<=aq)(ro:∀r∈rs,r.Ok)(hk:rs.map (·.tag)=f.ks)(hi:is.length=rs.length)(hn:is.Nodup)
  (hr:∀j (hj:j<rs.length) (hj':j<is.length),rs[j].b=spot b0 PS is[j]/\PS[is[j]]? = some (cQ f.t rs[j].tag)/\rs[j].l=(cQ f.t rs[j].tag).length):RdOk d (p.length:Nat)/\gE d (p.length:Nat)=f.sV:=by
 have few:rs.length<=4:=by have:=congrArg List.length hk;rw[LF,f.ks_len]at this;exact this▸o.few
 have hh:=AH (d:=d) (p:=p) (s:=rs.flatMap fW++s) (v:=f.v) (c:=rs.length) (by rw[h1];unfold fX;simp only[List.append_assoc]) (kP (f.good_ver hg)) (LN few (by decide));have hR:=DJ h1 ro hh.2
 have hsl:∀w∈rs,sl d (w.b:Nat) (w.l:Nat)=cQ f.t w.tag/\w.b+w.l<=d.length/\b0<=w.b:=λw hw=>by
  obtain⟨j,hj,rfl⟩:=List.getElem_of_mem hw;obtain⟨r1,r2,r3⟩:=hr j hj (Nat.lt_of_lt_of_eq hj hi.symm);rw[r1,r3];exact⟨(tC h2 hq r2).1,(tC h2 hq r2).2,L6 _ _⟩
 have hpw:rs.Pairwise λx y=>x.b+x.l<=y.b\/y.b+y.l<=x.b:=List.pairwise_iff_getElem.mpr λi j hi' hj' hij=>by
  obtain⟨r1,r2,r3⟩:=hr i hi' (Nat.lt_of_lt_of_eq hi' hi.symm);obtain⟨t1,t2,t3⟩:=hr j hj' (Nat.lt_of_lt_of_eq hj' hi.symm);rw[r1,r3,t1,t3];exact(Nat.lt_or_gt_of_ne λw=>L4 hij ((List.getElem_inj hn).mp w)).imp (tD r2) (tD t2)
 have hmem:∀r∈cf d (p.length:Nat),∃w,w∈rs/\(w.b:Int)=r.b/\(w.l:Int)=r.l:=λr h=>
  (Mc.mp (hR▸List.mem_map_of_mem h:Rc.tri r∈rs.map WR.tri)).imp λw q=>⟨q.1,congrArg (·.2.1) q.2,congrArg (·.2.2) q.2⟩
 have hin:∀x∈iT (cf d (p.length:Nat)),x.a<x.b/\(b0:Int)<=x.a:=λx hx=>by
  obtain⟨r,hr1,rfl⟩:=Mc.mp hx;obtain⟨hr1,hr2⟩:=List.mem_filter.mp hr1;obtain⟨w,hw,e⟩:=hmem r hr1;exact⟨Int.lt_add_of_pos_right _ (of_decide_eq_true hr2),show(b0:Int)<=r.b from e.1▸LU.mpr (hsl w hw).2.2⟩
 have hlen:p.length+(12+16*rs.length)<=d.length:=by
  rw[h1,LC,LC,cG ro];exact LV (L6 _ _) _
 have hT:(cf d (p.length:Nat)).map Rc.tag=f.ks:=by
  have:=congrArg (List.map (·.1)) hR;rw[L5,L5]at this;exact this.trans hk
 refine⟨⟨LQ _,hd,by rw[hh.2];exact LU.mpr hlen,by rw[hh.1];exact f.good_ver hg,λj hj=>?_,λr hm=>?_,⟨?_,λx hx=>?_⟩,by rw[hh.2];exact LN few (by decide)⟩,?_⟩
 ·obtain⟨g1,e1⟩:=yc hT (Nat.lt_of_succ_lt hj);obtain⟨g2,e2⟩:=yc hT hj;rw[e1,e2];exact Fnt.ks_asc o j g2
 ·obtain⟨w,hw,e⟩:=hmem r hm;rw[<-e.1,<-e.2];exact LU.mpr (hsl w hw).2.1
 ·refine List.pairwise_append.mpr ⟨List.pairwise_map.mpr (List.Pairwise.filter _ ?_),List.pairwise_singleton _ _,λx hx y hy=>.inr ?_⟩
  ·exact(List.pairwise_map (f:=Rc.tri) (R:=λt u=>t.2.1+t.2.2<=u.2.1\/u.2.1+u.2.2<=t.2.1)).mp (hR▸List.pairwise_map.mpr (hpw.imp λh=>h.imp LU.mpr LU.mpr))
  ·rw[LJ.mp hy,hh.2];exact Mt (LU.mpr (Mj ..▸hb)) (hin x hx).2
 ·rcases Mm.mp hx with w|w
  ·exact(hin x w).1
  ·rw[LJ.mp w,hh.2];exact Mi.mpr (Nat.lt_add_of_pos_right (L7 (by decide:0<12) (L6 _ _)))
 ·have:(cf d (p.length:Nat)).map (Rc.kv d)=f.ks.map λk=>(k,V.byt (cQ f.t k)):=by
   rw[<-hk,L5];have e:=congrArg (List.map λt:List Nat × Int × Int=>(t.1,V.byt (sl d t.2.1 t.2.2))) hR;rw[L5,L5]at e;exact e.trans (List.map_congr_left λw hw=>congrArg (λb=>(w.tag,V.byt b)) (hsl w hw).1)
  unfold gE uC Fnt.sV;rw[hh.1,this]
theorem tE(b:Nat)(l:List bV)(j:Nat)(h:j<(rE b l).length)(h':j<l.length):(rE b l)[j]=⟨l[j].1,io l[j].2,b+tot (l.take j),l[j].2.length⟩:=by
 induction l generalizing b j with
 |nil=>exact absurd h' (Mw j)
 |cons p r ih=>
  cases j with
  |zero=>rfl
  |succ j=>exact(ih _ j (Mn h) (Mn h')).trans (congrArg (λn=>WR.mk _ _ n _) (Mj ..))
theorem ye:∀(l:List bV),tot l=bJ (l.map (·.2)):=by
 intro l
 induction l with
 |nil=>
  exact rfl
 |cons p r ih=>
  exact congrArg ((aK p.2).length + ·) (ih)
theorem yf(l:List bV):nN l=iW (l.map (·.2)):=by unfold nN iW;rw[List.flatMap_map]
noncomputable def rJ(f:Fnt):List UInt8:=fX f.v (rE (12+16*f.t.length) f.es)++nN f.es
theorem DK{f:Fnt}(o:f.Ok)(hg:f.good=true):(rJ f).length<=200:=by
 have ht:=xJ (pG o);unfold rJ;rw[LC,cG (xK o hg),dC,pH,f.es_len];rw[f.es_len]at ht;exact LB (Mf (LV (LX 16 o.few) 12) (LB ht (LX 9 o.few))) (by decide)
theorem AI{f:Fnt}(o:f.Ok)(hg:f.good=true):RdOk (rJ f) 0/\gE (rJ f) 0=f.sV:=by
 have hl:=DK o hg;have hel:=f.es_len;have ro:=xK o hg;refine yd (p:=[]) (s:=nN f.es) (q:=fX f.v (rE (12+16*f.t.length) f.es)) (rs:=rE (12+16*f.t.length) f.es) (PS:=f.es.map (·.2)) (is:=List.range f.es.length) (b0:=12+16*f.t.length) o hg rfl (by unfold rJ;rw[yf]) (by rw[cG ro,dC,hel]) (by rw[dC,hel];simp) (by unfold aq;omega) ro ?_ (by rw[List.length_range,dC]) List.nodup_range λj hj hj'=>?_
 ·rw[<-f.es_keys];refine List.ext_getElem (by simp[dC]) λj hj hj'=>?_;rw[List.getElem_map,List.getElem_map,tE _ _ _ (by simpa using hj) (by simpa using hj')]
 ·rw[dC]at hj;have hk:f.es[j]=((f.es[j]).1,cQ f.t (f.es[j]).1):=by simp[Fnt.es]
  rw[tE _ _ _ (by rw[dC];exact hj) hj,List.getElem_range];have h2:(f.es[j]).2=cQ f.t (f.es[j]).1:=by rw[hk]
  refine⟨?_,?_,?_⟩
  ·show 12+16*f.t.length+tot (f.es.take j)=spot _ _ j;unfold spot;rw[ye,List.map_take]
  ·show(f.es.map (·.2))[j]? = some (cQ f.t (f.es[j]).1);rw[Ml,LH hj,Option.map_some,h2]
  ·show(f.es[j]).2.length=(cQ f.t (f.es[j]).1).length;rw[h2]
theorem AJ(w:Nat)(l:List Fnt):gB w l=w+(l.map pR).sum:=by
 induction l generalizing w with
 |nil=>rfl
 |cons f r ih=>exact(ih (w+pR f)).trans (Mj w (pR f) (r.map pR).sum)
theorem mo{fs:List Fnt}:∀{pls:List Fd},pls.length=fs.length->(∀f∈fs,f.Ok)->(∀f∈fs,f.good=true)->(∀(k:Nat)(f:Fnt)(fd:Fd),fs[k]? = some f->pls[k]? = some fd->nT f fd)->(bT fs pls).length=(fs.map pR).sum:=by
 induction fs with
 |nil=>exact λ_ _ _ _=>rfl
 |cons f r ih=>
  intro pls hl o g h
  cases pls with
  |nil=>cases hl
  |cons fd s=>
   have hd:=cG (v:=f.v) (fR (o f (.head _)) (g f (.head _)) (h 0 f fd rfl rfl));rw[eA]at hd;exact LC.trans (congr (congrArg HAdd.hAdd hd) (ih (Nat.succ.inj hl) (λx hx=>o x (.tail _ hx)) (λx hx=>g x (.tail _ hx)) λk f fd h1 h2=>h (k+1) f fd h1 h2))
theorem pM(fs:List Fnt):∀(pls:List Fd)(k:Nat){f:Fnt}{fd:Fd},fs[k]? = some f->pls[k]? = some fd->bT fs pls=bT (fs.take k) (pls.take k)++(eH f fd++bT (fs.drop (k+1)) (pls.drop (k+1))):=by
 induction fs with
 |nil=>exact λ_ _ _ _ h=>AG h
 |cons f r ih=>
  intro pls k f' fd h1 h2
  cases pls with
  |nil=>exact AG h2
  |cons p s=>
   cases k with
   |zero=>cases LM h1;cases LM h2;rfl
   |succ k=>exact(congrArg (eH f p++·) (ih s k h1 h2)).trans (LG ..).symm
theorem rK(w:Nat)(fs:List Fnt):∀k:Nat,k<fs.length->∃s,fw w fs=fw w (fs.take k)++(cD (gB w (fs.take k))++s):=by
 induction fs generalizing w with
 |nil=>exact λk h=>absurd h (Mw k)
 |cons f r ih=>
  intro k h
  cases k with
  |zero=>exact⟨_,rfl⟩
  |succ k=>exact(ih (w+pR f) k (Mn h)).imp λs e=>(congrArg (cD w++·) e).trans (LG ..).symm
theorem DL{f:Fnt}{fd:Fd}{PS:Bl}{d A C:List UInt8}{b0:Nat}(o:f.Ok)(hg:f.good=true)(P:Placed b0 PS f.es fd)(F:nT f fd)(hd:d=A++(eH f fd++(C++iW PS)))(hq:(A++(eH f fd++C)).length=b0)(hl:d.length<=aq) :
  RdOk d (A.length:Nat)/\gE d (A.length:Nat)=f.sV:=by
 obtain⟨r1,is,r2,r3,r4⟩:=tA o P;have ro:=fR o hg F;have hdl:(eH f fd).length=12+16*(cM f fd).length:=cG ro;refine yd (PS:=PS) (p:=A) (s:=C++iW PS) (q:=A++(eH f fd++C)) (rs:=cM f fd) (is:=is) o hg hd (by rw[hd];simp only[List.append_assoc]) hq ?_ hl ro (by unfold cM;rw[L5];exact List.map_id _) (by rw[eA,r2,f.ks_len]) r3 λj hj hj'=>?_
 ·rw[<-hq,LC,LC,hdl,Mj];exact LV (L6 _ _) _
 ·obtain⟨t1,t2⟩:=r4 j (r2▸hj') hj';have hrg:(cM f fd)[j]=⟨f.ks[j]'(r2▸hj'),io (cQ f.t (f.ks[j]'(r2▸hj'))),DF fd (f.ks[j]'(r2▸hj')),(cQ f.t (f.ks[j]'(r2▸hj'))).length⟩:=List.getElem_map _;rw[hrg];exact⟨t1,t2,rfl⟩
theorem nV{fs:List Fnt}(o:∀f∈fs,f.Ok)(hg:∀f∈fs,f.good=true)(h1:1<=fs.length)(h64:fs.length<=64) :
  Dq (eQ fs) fs.length/\(∀k (h:k<fs.length),gE (eQ fs) (bI (eQ fs) k)=fs[k].sV)/\(eQ fs).length=12+4*fs.length+(fs.map pR).sum+bJ (bk (gB (12+4*fs.length) fs) [] (fs.map Fnt.es)).1:=by
 have hw:∀l:List Fnt,(∀f∈l,f.Ok)->l.length<=64->gB (12+4*fs.length) l<=5132:=λl ol hl=>LB (xV _ l λf hf=>(ol f hf).few).1 (Mf (LV (LX 4 h64) 12) (LX 76 hl));have hfd:=λk f fd=>BD (fs:=fs) (b0:=gB (12+4*fs.length) fs) (k:=k) (f:=f) (fd:=fd) o h64 (LB (hw fs o h64) (by decide));have hpl:=(ez (gB (12+4*fs.length) fs) (fs.map Fnt.es) []).2.1;rw[LF]at hpl;have hw0:=AJ (12+4*fs.length);unfold eQ;generalize bk (gB (12+4*fs.length) fs) [] (fs.map Fnt.es)=q at *;have hlen:∀X:List UInt8,(iw fs.length++(fw (12+4*fs.length) fs++X)).length=12+4*fs.length+X.length:=λX=>by rw[LC,LC,lf,<-Mj];rfl
 have hdl:=mo hpl o hg λk f fd g1 g2=>(hfd k f fd g1 g2).2.1;have get:∀k,k<fs.length->∃fd,q.2[k]? = some fd:=λk hk=>⟨_,LH (hpl.symm▸hk)⟩;generalize hd:iw fs.length++(fw (12+4*fs.length) fs++(bT fs q.2++iW q.1))=d
 have hL:d.length=12+4*fs.length+(fs.map pR).sum+bJ q.1:=by
  rw[<-hd,hlen,LC,hdl,jA];exact(Mj ..).symm
 have hLIM:d.length<=aq:=by
  obtain⟨fd,g⟩:=get 0 h1;rw[hL,<-hw0];exact LB (Mf (hw fs o h64) (hfd 0 _ fd (LH h1) g).2.2) (by decide)
 have hoff:∀k,k<fs.length->bI d k=(gB (12+4*fs.length) (fs.take k):Nat):=λk hk=>by
  obtain⟨s,e⟩:=rK (12+4*fs.length) fs k hk;unfold bI
  rw[show sl d (12+4*(k:Int)) 4=cD (gB (12+4*fs.length) (fs.take k))from dm (p:=iw fs.length++fw (12+4*fs.length) (fs.take k)) (s:=s++(bT fs q.2++iW q.1)) (by rw[<-hd,e];simp only[List.append_assoc])
   (by rw[LC,lf,Mx,My (Mu hk)];rfl) rfl,cE (LN (hw _ (λf hf=>o f (List.mem_of_mem_take hf)) (LB (LB (Ma (Mx ..)) (Nat.min_le_right _ _)) h64)) (by decide))]
 have hdir:∀k (h:k<fs.length),RdOk d (gB (12+4*fs.length) (fs.take k):Nat)/\gE d (gB (12+4*fs.length) (fs.take k):Nat)=fs[k].sV:=λk h=>by
  have g1:fs[k]? = some fs[k]:=LH h;obtain⟨fd,g2⟩:=get k h;obtain⟨P,F,_⟩:=hfd k _ _ g1 g2;have hm:=List.getElem_mem h;have hsp:=pM fs q.2 k g1 g2;have htk:=mo (fs:=fs.take k) (pls:=q.2.take k) (by rw[Mx,Mx,hpl]) (λf hf=>o f (List.mem_of_mem_take hf)) (λf hf=>hg f (List.mem_of_mem_take hf)) λj f fd g1 g2=>(hfd j f fd (nU g1) (nU g2)).2.1;have:=DL (d:=d) (A:=iw fs.length++(fw (12+4*fs.length) fs++bT (fs.take k) (q.2.take k))) (C:=bT (fs.drop (k+1)) (q.2.drop (k+1))) (o _ hm) (hg _ hm) P F (by rw[<-hd,hsp];simp only[List.append_assoc])
   (by rw[hw0,<-hdl,<-hlen,hsp];simp only[List.append_assoc]) hLIM
  rw[hlen,htk,<-hw0]at this;exact this
 refine⟨⟨hLIM,?_,?_,?_,h1,h64,hL▸LB (L6 _ _) (L6 _ _),λk hk=>by rw[hoff k hk];exact(hdir k hk).1⟩,λk hk=>by rw[hoff k hk];exact(hdir k hk).2,hL⟩
 ·rw[show sl d 0 4=cD 1953784678 from dm (p:=[]) (s:=cD 65536++(cD fs.length++(fw (12+4*fs.length) fs++(bT fs q.2++iW q.1)))) (by rw[<-hd];unfold iw;simp only[List.append_assoc,List.nil_append]) rfl rfl,cE (by decide)]
 ·rw[show sl d 4 4=cD 65536 from dm (p:=cD 1953784678) (s:=cD fs.length++(fw (12+4*fs.length) fs++(bT fs q.2++iW q.1))) (by rw[<-hd];unfold iw;simp only[List.append_assoc]) rfl rfl,cE (by decide)]
 ·rw[show sl d 8 4=cD fs.length from dm (p:=cD 1953784678++cD 65536) (s:=fw (12+4*fs.length) fs++(bT fs q.2++iW q.1)) (by rw[<-hd];unfold iw;simp only[List.append_assoc]) rfl rfl,cE (LN h64 (by decide))]
theorem AK:∀(l:List bV)(b b':Nat)(ps:Bl)(ts:List Nat)(fd fd':Fd),(aH b ps ts fd l).1=(aH b' ps ts fd' l).1:=by
 intro l
 induction l with
 |nil=>
  intro _ _ _ _ _ _;exact rfl
 |cons p r ih=>
  intro b b' ps ts fd fd';simp only[dD,dF];exact ih _ _ _ _ _ _
theorem DM:∀(l:List (List bV))(b b':Nat)(ps:Bl),(bk b ps l).1=(bk b' ps l).1:=by
 intro l
 induction l with
 |nil=>
  intro _ _ _;exact rfl
 |cons es r ih=>
  intro b b' ps;simp only[k8,k9];rw[AK es b b' ps [] [] []];exact ih _ _ _
theorem uL(b:Nat):∀(l:List bV)(ps:Bl)(fd:Fd),(aH b ps (List.range ps.length) fd l).1=ps++l.map (·.2):=by
 intro l
 induction l with
 |nil=>
  intro ps fd;simp[dD,dF]
 |cons p r ih=>
  intro ps fd
  have hf:ip ps (List.range ps.length) p.2=[]:=by
   unfold ip;rw[List.filter_eq_nil_iff];intro i hi;simp[List.mem_range.mp hi]
  have hp:aJ ps (List.range ps.length) p.2=(ps++[p.2],ps.length):=by unfold aJ;rw[hf]
  simp only[dD,dF,hp];rw[show List.range ps.length++[ps.length]=List.range (ps++[p.2]).length by rw[LC,Mb,List.range_succ]];rw[ih];simp
theorem pN{p:Nat->Bool}{k m:Nat}(hk:k<m)(h0:∀i,i<k->p i=false)(h1:p k=true):∃r,(List.range m).filter p=k::r:=by
 have he:List.range m=List.range k++(k::(List.range (m - k - 1)).map (λi=>k+1+i)):=by
  have h2:List.range m=List.range (k+(1+(m - k - 1))):=by congr 1;omega
  rw[h2,List.range_add];congr 1;rw[List.range_add];simp[Function.comp_def,Nat.add_assoc]
 refine⟨((List.range (m - k - 1)).map (λi=>k+1+i)).filter p,?_⟩
 ·rw[he,List.filter_append,List.filter_cons_of_pos h1,(List.filter_eq_nil_iff (l:=List.range k)).mpr (λi hi=>by rw[h0 i (List.mem_range.mp hi)];simp)]
  rfl
theorem uM(b:Nat){es:List bV}{ps:Bl}(h:es.map (·.2)<+:ps):∀(k:Nat)(l:List bV)(fd:Fd),es=es.take k++l->k+l.length=es.length->(aH b ps (List.range k) fd l).1=ps:=by
 intro k l
 induction l generalizing k with
 |nil=>
  intro fd _ _;exact rfl
 |cons p r ih=>
  intro fd he hl;have hk:k<es.length:=hl▸Nat.lt_add_of_pos_right (Ms _)
  have hkp:es[k]? = some p:=by
   rw[he,List.getElem?_append_right (List.length_take_le ..),Mx,My (Mu hk)];simp
  have hpk:ps[k]? = some p.2:=by
   refine nR h ?_;rw[Ml,hkp];rfl
  have hkl:=(LE.mp hpk).1;obtain⟨q,hq⟩:=pN (p:=λi=>decide (ps[i]? = some p.2)&&!decide (i∈List.range k)) hkl (λi hi=>by simp[hi]) (by simp[hpk]);have hp:aJ ps (List.range k) p.2=(ps,k):=by unfold aJ ip;rw[hq]
  simp only[dD,dF,hp];rw[<-List.range_succ];refine ih (k+1) _ ?_ ((Nat.succ_add k r.length).trans hl)
  have h3:es.take (k+1)=es.take k++[p]:=by
   rw[List.take_succ_eq_append_getElem hk];congr 2;rw[LH hk]at hkp;simpa using hkp
  rw[h3,LG];exact he
theorem yg{f:Fnt}{r:List Fnt}(o:∀g∈f::r,g.Ok)(hg:∀g∈f::r,g.good=true)(h64:(f::r).length<64):(eQ (f::r++[f])).length=(eQ (f::r)).length+16+16*f.t.length:=by
 have o2:∀g∈f::r++[f],g.Ok:=λg hm=>by
  rcases Mm.mp hm with w|w
  ·exact o g w
  ·rw[LJ.mp w];exact o f LL
 have g2:∀g∈f::r++[f],g.good=true:=λg hm=>by
  rcases Mm.mp hm with w|w
  ·exact hg g w
  ·rw[LJ.mp w];exact hg f LL
 have e1:=(nV o hg (by simp) (by omega)).2.2;have e2:=(nV o2 g2 (by simp) (by rw[List.length_append,List.length_singleton];omega)).2.2;rw[e1,e2]
 have hP:(bk (gB (12+4*(f::r++[f]).length) (f::r++[f])) [] ((f::r++[f]).map Fnt.es)).1=(bk (gB (12+4*(f::r).length) (f::r)) [] ((f::r).map Fnt.es)).1:=by
  rw[Mh,List.map_singleton,uI];rw[DM _ _ (gB (12+4*(f::r).length) (f::r)) []];generalize gB (12+4*(f::r).length) (f::r)=b
  have hpre:f.es.map (·.2)<+:(bk b [] ((f::r).map Fnt.es)).1:=by
   rw[List.map_cons];simp only[k8,k9];have h0:=uL b f.es [] [];rw[List.length_nil,List.range_zero,List.nil_append]at h0;rw[<-h0];exact(ez b (r.map Fnt.es) _).1
  exact uM _ hpre 0 f.es [] (by simp) (by simp)
 rw[hP];simp only[List.length_append,List.length_cons,List.length_nil,List.map_append,List.sum_append,List.map_cons,List.map_nil,List.sum_cons,List.sum_nil];unfold pR;lia
theorem AL{m:Nat}{a:List (List Nat × List UInt8)}{b:List (List Nat × V)}:(∀p∈a,fy b p.1=some (.byt p.2))->fV (bF (m+1)) (a.map λp=>(p.1,V.byt p.2)) b=some true:=by
 induction a with
 |nil=>exact λ_=>rfl
 |cons p r ih=>
  intro h;show @Option.casesOn _ (λ_=>Option Bool) (fy b p.1) (some false) (λv'=>oA (bF (m+1) (.byt p.2) v') (fV (bF (m+1)) (r.map λp:List Nat × List UInt8=>(p.1,V.byt p.2)) b))=_;rw[h p (.head _),ih λp hp=>h p (.tail _ hp)];show some (decide (p.2=p.2)&&true)=_;rw[decide_eq_true rfl]
  rfl
theorem AM{α:Type}{f:V->V->Option Bool}{g h:α->V}{l:List α}:(∀x∈l,f (g x) (h x)=some true)->fU f (l.map g) (l.map h)=some true:=by
 induction l with
 |nil=>exact λ_=>rfl
 |cons x r ih=>exact λw=>(congrArg (oA · _) (w x (.head _))).trans (congrArg (oA (some true)) (ih λy hy=>w y (.tail _ hy)))
theorem lg{m:Nat}{v:Int}{a:List (List Nat × List UInt8)}{b:List (List Nat × V)}(hl:a.length=b.length)(h:∀p∈a,fy b p.1=some (.byt p.2)):bF (m+3) (.tup [.int v,.dct (a.map λp=>(p.1,V.byt p.2))]) (.tup [.int v,.dct b])=some true:=by
 have h1:=AL (m:=m) h;show(if [V.int v,V.dct (a.map λp=>(p.1,V.byt p.2))].length=[V.int v,V.dct b].length then fU (bF (m+2)) [V.int v,V.dct (a.map λp=>(p.1,V.byt p.2))] [V.int v,V.dct b]else none)=_;rw[if_pos (by rfl)];have e1:bF (m+2) (.int v) (.int v)=some true:=by show some (v==v)=_;simp
 have e2:bF (m+2) (.dct (a.map λp=>(p.1,V.byt p.2))) (.dct b)=some true:=by
  show(if (a.map λp=>(p.1,V.byt p.2)).length=b.length then fV (bF (m+1)) _ _ else some false)=_;rw[if_pos (by rw[LF];exact hl),h1]
 exact congr (congrArg oA e1) (congrArg (oA · (some true)) e2)
theorem jC{α:Type}{g h:α->V}{l:List α}(w:∀x∈l,bF 5 (g x) (h x)=some true):n6 (.lst (l.map g)) (.lst (l.map h))=some true:=by
 show(if (l.map g).length=(l.map h).length then fU (bF 5) _ _ else some false)=_;rw[if_pos (by simp),AM w]
theorem yh{t:List (List Nat × List UInt8)}:∀{p:List Nat × List UInt8},(t.map (·.1)).Nodup->p∈t->cQ t p.1=p.2:=by
 induction t with
 |nil=>exact λ_ h=>(by cases h)
 |cons q r ih=>
  intro p hn h;have hn':=Mp.mp hn;rcases LI.mp h with rfl|h
  ·exact if_pos rfl
  ·exact(if_neg λw=>hn'.1 (Mc.mpr ⟨p,h,w.symm⟩)).trans (ih hn'.2 h)
theorem Fnt.self{f:Fnt}(o:f.Ok):bF 5 f.V f.V=some true:=lg (m:=2) (by rw[Fnt.kv_len]) λp hp=>by
 have:=rD (t:=f.t) (k:=p.1) (Mc.mpr ⟨p,hp,rfl⟩);rw[yh o.nd hp]at this;exact this
theorem Fnt.sV_eq(f:Fnt):f.sV = .tup [.int f.v,.dct (f.es.map λp=>(p.1,V.byt p.2))]:=by
 unfold Fnt.sV Fnt.es;rw[L5]
 rfl
theorem Fnt.s_self{f:Fnt}(o:f.Ok):bF 5 f.sV f.V=some true:=by
 rw[f.sV_eq];refine lg (m:=2) (by rw[Fnt.kv_len,f.es_len]) λp hp=>?_;obtain⟨k,hk,rfl⟩:=Mc.mp hp;exact f.get hk
theorem Fnt.ss{f:Fnt}(o:f.Ok):bF 5 f.sV f.sV=some true:=by
 rw[f.sV_eq];refine lg (m:=2) (by simp) λp hp=>?_;have hn:(f.es.map (·.1)).Nodup:=by rw[f.es_keys];exact Fnt.ks_nodup o
 have:=rD (t:=f.es) (k:=p.1) (Mc.mpr ⟨p,hp,rfl⟩);rw[yh hn hp]at this;exact this
end J.Internal
namespace J.Internal
variable{n:Nat}{H T:Hp}
noncomputable def fx(cs:List V)(k:Nat):O:=.lst [.lst cs,.int k]
structure gj(cs:List V):Prop where
 len:cs.length<=40
 intz:∀v∈cs,∃i:Int,v = .int i
theorem lh{x m:Int}(h:0<m):∃r:Nat,x.fmod m=r/\(r:Int)<m:=by
 have h0:0<=x.fmod m:=Int.fmod_nonneg_of_pos x h;exact⟨(x.fmod m).toNat,by omega,by have:=Int.fmod_lt_of_pos x h;omega⟩
theorem yi{cs:List V}{k:Nat}{m:Int}(hc:gj cs)(hk:k<=1000):∃w:Int,ev prog (R n) (.ife (.cmp .ne (.sub (.var 0) (.cint 0)) (.lst false .nil)) (.bin .fdiv (.sub (.sub (.var 0) (.cint 0)) (.bin .mod (.var 2) (.b1 .len (.sub (.var 0) (.cint 0))))) (.bin .pow (.cint 300) (.bin .fdiv (.var 2) (.b1 .len (.sub (.var 0) (.cint 0)))))) (.cint 0)) [some (.obj 0),some (.int m),some (.int k),none] (fx cs (k+1)::T) = .ok (.int w) (fx cs (k+1)::T):=by
 by_cases hl:0<cs.length
 ·have hl0:(0:Int)<cs.length:=Mi.mpr hl;obtain⟨q,hq,hq2⟩:=lh (x:=(k:Int)) hl0;have hq3:q<cs.length:=Mi.mp hq2;obtain⟨i,hi⟩:=hc.intz cs[q] (List.getElem_mem hq3);have ea:eR cs (q:Int)=some (.int i):=ew (by rw[LH hq3,hi]) (LB hc.len (by decide));have hp:n6 (.lst cs) (.lst [])=some false:=by rw[jy];cases cs with|nil=>cases hl|cons _ _=>rfl
  have d0:0<=(k:Int).fdiv cs.length:=Int.fdiv_nonneg (LQ _) (LQ _)
  have d2:(k:Int).fdiv cs.length<1024:=by
   rw[Int.fdiv_eq_ediv_of_nonneg _ (LQ _)];exact Int.lt_of_le_of_lt (Int.ediv_le_self _ (LQ _)) (Int.lt_of_le_of_lt (LU.mpr hk) (by decide))
  exact⟨_,K8 (bM rfl rfl (GT hp)) (bn (ci rfl (bn rfl rfl (rq (Int.ne_of_gt hl0) hq)) (nG ea)) (bn rfl (bn rfl rfl (nE (Int.ne_of_gt hl0))) (aU (aT (aT rfl (decide_eq_true d0)) (decide_eq_true d2)))) (nE (Int.ne_of_gt (Int.pow_pos (by decide)))))⟩
 ·have hn:cs=[]:=List.length_eq_zero_iff.mp (Nat.eq_zero_of_not_pos hl);subst hn;exact⟨0,rfl⟩
theorem AN{cs:List V}{k:Nat}{m:Int}(hc:gj cs)(hk:k<=1000)(hm:0<m)(hT:Wf (fx cs (k+1)::T)) :
  ∃r:Nat,(r:Int)<m/\R (n+1) 39 [.obj 0,.int m] (fx cs k::T) = .ok (.int r) (fx cs (k+1)::T):=by
 have es:dU (.obj 0) (.int 1) (.int ((k:Int)+1)) (fx cs k::T) = .ok () (fx cs (k+1)::T):=rfl;have hm0:m≠0:=Int.ne_of_gt hm
 by_cases hlt:k<cs.length
 ·obtain⟨i,hi⟩:=hc.intz cs[k] (List.getElem_mem hlt);obtain⟨r,hr,hr2⟩:=lh (x:=i) hm;have ea:eR cs (k:Int)=some (.int i):=ew (by rw[LH hlt,hi]) (LB hc.len (by decide));exact⟨r,hr2,cJ rfl rfl (sA rfl (sS (FC rfl rfl rfl es) (sQ (xT (bM rfl rfl (xd (decide_eq_true (Mi.mpr hlt)))) rfl (sR (bn (ci rfl rfl (nG ea)) rfl (rq hm0 hr))))))) rfl rfl hT⟩
 ·obtain⟨w,hw⟩:=yi (n:=n) (T:=T) (m:=m) hc hk;obtain⟨r,hr,hr2⟩:=lh (x:=w+(k:Int)+((k:Int)*k).fdiv 3) hm;have hs:small (k:Int)=true:=py (LN hk (by decide));exact⟨r,hr2,cJ rfl rfl (sA rfl (sS (FC rfl rfl rfl es) (sF (bM rfl rfl (De (decide_eq_false λh=>hlt (Mi.mp h)))) rfl (sA hw (sR (bn (bn rfl (bn (bn rfl rfl (pw hs)) rfl (nE (by decide))) rfl) rfl (rq hm0 hr))))))) rfl rfl hT⟩
noncomputable def eB(t:List bV):List (List Nat × V):=t.map λp=>(p.1,V.byt p.2)
noncomputable def eI(l:List bV)(n:List Nat)(v:List UInt8):List bV:=l.rec [(n,v)] λp r g=>if p.1=n then(p.1,v)::r else p::g
theorem jD{p:bV}{r:List bV}{k:List Nat}{b:List UInt8}{P:List bV->Prop}(h1:P ((p.1,b)::r))(h2:p.1≠k->P (p::eI r k b)):P (eI (p::r) k b):=by
 show P (if p.1=k then _ else _)
 by_cases e:p.1=k
 ·rw[if_pos e];exact h1
 ·rw[if_neg e];exact h2 e
theorem DN(k:List Nat)(b:List UInt8)(t:List bV):cx (eB t) k (.byt b)=eB (eI t k b):=by
 induction t with
 |nil=>rfl
 |cons p r ih=>
  show(if p.1=k then(p.1,V.byt b)::eB r else(p.1,V.byt p.2)::cx (eB r) k (.byt b))=eB (if p.1=k then(p.1,b)::r else p::eI r k b)
  by_cases e:p.1=k
  ·rw[if_pos e,if_pos e];rfl
  ·rw[if_neg e,if_neg e,ih];rfl
theorem gC(k:List Nat)(b:List UInt8)(t:List bV):∀x:List Nat,x∈(eI t k b).map (·.1)->x=k\/x∈t.map (·.1):=by
 induction t with
 |nil=>exact λx h=>.inl (LJ.mp h)
 |cons p r ih=>exact λx=>jD (k:=k) (b:=b) (P:=λl=>x∈l.map (·.1)->x=k\/x∈(p::r).map (·.1)) .inr λ_ h=>(LI.mp h).elim (λw=>.inr (LI.mpr (.inl w))) λw=>(ih x w).imp_right (.tail _)
theorem yj(k:List Nat)(b:List UInt8)(t:List bV):(t.map (·.1)).Nodup->((eI t k b).map (·.1)).Nodup:=by
 induction t with
 |nil=>exact λ_=>Mp.mpr ⟨List.not_mem_nil,.nil⟩
 |cons p r ih=>exact λh=>jD (k:=k) (b:=b) (P:=λl=>(l.map (·.1)).Nodup) h λne=>Mp.mpr ⟨λw=>(gC k b r _ w).elim ne (Mp.mp h).1,ih (Mp.mp h).2⟩
theorem uN(k:List Nat)(b:List UInt8)(t:List bV):(eI t k b).length<=t.length+1:=by
 induction t with
 |nil=>exact LZ _
 |cons p r ih=>exact jD (k:=k) (b:=b) (P:=λl=>l.length<=(p::r).length+1) (Nat.le_succ _) λ_=>Nat.succ_le_succ ih
theorem pO(k:List Nat)(b:List UInt8)(hb:b.length<=6)(t:List bV):(∀p∈t,p.2.length<=6)->∀p∈eI t k b,p.2.length<=6:=by
 induction t with
 |nil=>exact λ_ p hp=>LJ.mp hp▸hb
 |cons q r ih=>exact λh=>jD (k:=k) (b:=b) (P:=λl=>∀p∈l,p.2.length<=6) (λp hp=>(LI.mp hp).elim (λw=>w▸hb) λw=>h p (.tail _ w)) λ_ p hp=>(LI.mp hp).elim (λw=>w▸h q (.head _)) λw=>ih (λq hq=>h q (.tail _ hq)) p w
structure TOk(m:Nat)(t:List bV):Prop where
 nd:(t.map (·.1)).Nodup
 keys:∀k∈t.map (·.1),k∈tags4\/k∈tagsX
 small:∀p∈t,p.2.length<=6
 few:t.length<=m
theorem TOk.put{m:Nat}{t:List bV}{k:List Nat}{b:List UInt8}(h:TOk m t)(hk:k∈tags4\/k∈tagsX)(hb:b.length<=6):TOk (m+1) (eI t k b):=
 ⟨yj k b t h.nd,λx hx=>by
  rcases gC k b t x hx with rfl|w
  ·exact hk
  ·exact h.keys x w,pO k b hb t h.small,LB (uN k b t) (Nat.succ_le_succ h.few)⟩
theorem TOk.fnt{t:List bV}{v:Nat}(h:TOk 4 t):(Fnt.mk v t).Ok:=⟨h.nd,h.keys,h.small,h.few⟩
theorem yk{cs:List V}{k:Nat}{t:List bV}{T:Hp}{key:List Nat}{b:List UInt8}(h:t.length<100):dU (.obj 1) (.str key) (.byt b) (fx cs k::.dct (eB t)::T) = .ok () (fx cs k::.dct (eB (eI t key b))::T):=by
 have hl:(eB t).length<aq:=by unfold eB aq;rw[LF];omega
 show guard (decide ((eB t).length<aq)&&!V.isObj (.byt b)) _=_;simp only[hl,decide_true,V.isObj,Bool.not_false,Bool.and_self,bu,DN]
 rfl
theorem IZ{r:Nat}(h:(r:Int)<3):r=0\/r=1\/r=2:=by omega
theorem yl{xs:List V}{r:Nat}(h:(r:Int)<xs.length)(hl:xs.length<=aq):∃v∈xs,eR xs (r:Int)=some v:=⟨xs[r]'(Mi.mp h),List.getElem_mem _,ew (LH _) hl⟩
theorem iy{r:Nat}(l:List Nat)(h:(r:Int)<l.length)(hl:l.length<=aq):∃v∈l,eR (l.map λj:Nat=>V.int j) (r:Int)=some (.int v):=by
 obtain⟨v,hv,e⟩:=yl (xs:=l.map λj:Nat=>V.int j) (by rw[LF];exact h) (by rw[LF];exact hl);obtain⟨j,hj,rfl⟩:=Mc.mp hv;exact⟨j,hj,e⟩
theorem AO{q:Nat}(h:(q:Int)<4):∃tag,tag∈tags4/\eR [V.str [79,83,47,50],V.str [99,109,97,112],V.str [103,108,121,102],V.str [109,97,120,112]] (q:Int)=some (.str tag):=by
 obtain⟨v,hv,e⟩:=yl (xs:=tags4.map V.str) h (by decide);obtain⟨t,ht,rfl⟩:=Mc.mp hv;exact⟨t,ht,e⟩
noncomputable def uW(a b c:List UInt8):V:=.lst [.byt a,.byt b,.byt c]
structure P3(a b c:List UInt8):Prop where
 ha:a.length<=6
 hb:b.length<=6
 hc:c.length<=6
theorem AP{a b c:List UInt8}{r:Nat}(P:P3 a b c)(h:(r:Int)<3):∃x:List UInt8,x.length<=6/\eR [V.byt a,V.byt b,V.byt c] (r:Int)=some (.byt x):=by
 rcases IZ h with rfl|rfl|rfl
 ·exact⟨a,P.ha,rfl⟩
 ·exact⟨b,P.hb,rfl⟩
 ·exact⟨c,P.hc,rfl⟩
theorem AQ{cs:List V}{k m:Nat}{t:List bV}{a b c:List UInt8}{x2 x3 x5:Option V}{v:V}(hc:gj cs)(hk:k<=990)(P:P3 a b c)(h:TOk m t)(hm:m<10) :
  ∃t',TOk (m+1) t'/\(∀q∈t'.map (·.1),q∈tags4\/q∈t.map (·.1))/\lp (R (n+1)) (.one 5) Gf v [some (.obj 0),some (uW a b c),x2,x3,some (.obj 1),x5] [fx cs k,.dct (eB t)] = .ok (.next,[some (.obj 0),some (uW a b c),x2,x3,some (.obj 1),some v]) [fx cs (k+2),.dct (eB t')]:=by
 obtain⟨r,hr,e1⟩:=AN (n:=n) (T:=[.dct (eB t)]) (m:=3) hc (LB hk (by decide):k<=1000) (by decide) rfl;obtain⟨x,hx,ex⟩:=AP P hr;obtain⟨q,hq,e2⟩:=AN (n:=n) (T:=[.dct (eB t)]) (m:=4) hc (LB (MB hk 1) (by decide):k+1<=1000) (by decide) rfl;obtain⟨tag,htag,et⟩:=AO hq;have hlen:=h.few;refine⟨eI t tag x,h.put (.inl htag) hx,λy hy=>?_,?_⟩
 ·rcases gC tag x t y hy with rfl|w
  ·exact .inl htag
  ·exact .inr w
 ·exact sS (FC (ci rfl (av rfl e1) (nG ex)) rfl (ci rfl (av rfl e2) (ru et)) (yk (LN hlen (Nat.lt_trans hm (by decide))))) rfl
theorem FZ{m:Nat}(h:m<3):bW [.int (1+(m:Int))] H = .ok (.rng 0 1 (m+1)) H:=by
 have:=pA (m:=m+1) (H:=H) (by unfold aq;omega);rw[show((m+1:Nat):Int)=1+(m:Int) by omega]at this;exact this
end J.Internal
namespace J.Internal
noncomputable section
def fS(n:Nat)(cs:List V)(k:Nat)(m:Nat)(a:List UInt8)(b:List UInt8)(c:List UInt8)(x2:Option V)(x3:Option V)(x5:Option V):Prop:=
 ∀(hc:gj cs)(hk:k<=980)(P:P3 a b c)(hm:m<3),∃t' x5',TOk 3 t'/\(∀q∈t'.map (·.1),q∈tags4)/\bU (lp (R (n+1)) (.one 5) Gf) ((List.range (m+1)).map λk:Nat=>V.int k) [some (.obj 0),some (uW a b c),x2,x3,some (.obj 1),x5] [fx cs k,.dct []] = .ok (.next,[some (.obj 0),some (uW a b c),x2,x3,some (.obj 1),x5']) [fx cs (k+2*(m+1)),.dct (eB t')]
namespace Kfn_loop
def zz:=ep (uX fS)
def n:=zz.1
def cs:=zz.2.1
def k:=zz.2.2.1
def a:=zz.2.2.2.2.1
def b:=zz.2.2.2.2.2.1
def c:=zz.2.2.2.2.2.2.1
def x2:=zz.2.2.2.2.2.2.2.1
def x3:=zz.2.2.2.2.2.2.2.2.1
def x5:=zz.2.2.2.2.2.2.2.2.2
theorem TT:fS n cs k zz.2.2.2.1 a b c x2 x3 x5:=by
 intro hc hk P hm;obtain⟨σ',H',e,t',h1,h2,h3,y,h4⟩:=dl (f:=lp (R (n+1)) (.one 5) Gf) (g:=λk:Nat=>V.int k) (λpre σ H'=>∃t,TOk pre.length t/\(∀q∈t.map (·.1),q∈tags4)/\H'=[fx cs (k+2*pre.length),.dct (eB t)]/\∃y,σ=[some (.obj 0),some (uW a b c),x2,x3,some (.obj 1),y]) (List.range (zz.2.2.2.1+1))
  (σ:=[some (.obj 0),some (uW a b c),x2,x3,some (.obj 1),x5]) (H:=[fx cs k,.dct []]) ⟨[],⟨.nil,λ_ h=>(by cases h),λ_ h=>(by cases h),LZ _⟩,λ_ h=>(by cases h),rfl,_,rfl⟩ λpre x post he σ H1 ⟨t,h1,h2,hH,y,hσ⟩=>by
   subst hH;subst hσ;have hp:pre.length<=3:=LB (kF he) hm;obtain⟨t',g1,g2,e⟩:=AQ (n:=n) (k:=k+2*pre.length) (x2:=x2) (x3:=x3) (x5:=y) (v:=.int x) hc (LB (Mf hk (LX 2 hp)) (by decide)) P h1 (LN hp (by decide));refine⟨_,_,e,t',by rw[LC];exact g1,λq hq=>?_,?_,_,rfl⟩
   ·rcases g2 q hq with w|w
    ·exact w
    ·exact h2 q w
   ·rw[LC,Mb];rfl
 rw[Mk]at h1 h3;subst h3;subst h4;exact⟨t',y,⟨h1.nd,h1.keys,h1.small,LB h1.few hm⟩,h2,e⟩
end Kfn_loop
end
theorem AR{n cs k m a b c x2 x3 x5}:fS n cs k m a b c x2 x3 x5:=cN (p:=uX fS) Kfn_loop.TT (n,cs,k,m,a,b,c,x2,x3,x5)
variable{n:Nat}{T:Hp}
def ym(n:Nat)(cs:List V)(k:Nat)(t:List bV)(a b c:List UInt8)(fault:Int)(v:Nat)(x5:Option V):Prop:=
  ∃(f:Fnt)(k':Nat)(σ:ai)(T:Hp),f.Ok/\k'<=k+1/\bA prog (R (n+1)) Jj [some (.obj 0),some (uW a b c),some (.int fault),some (.int v),some (.obj 1),x5] [fx cs k,.dct (eB t)] = .ok (.ret f.V,σ) (fx cs k'::T)
theorem AS{cs:List V}{k f:Nat}{t:List bV}{a b c:List UInt8}{v:Nat}{x5:Option V}(hc:gj cs)(hk:k<=990)(P:P3 a b c)(h:TOk 3 t)(hf:f<=6):ym n cs k t a b c f v x5:=by
 have h4:TOk 4 t:=⟨h.nd,h.keys,h.small,Nat.le_succ_of_le h.few⟩
 have bad:∀(j:Nat)(key:List Nat),key∈tagsX->eR (tagsX.map .str) ((j:Int) - 3)=some (.str key)->n6 (.int j) (.int 1)=some false->n6 (.int j) (.int 2)=some false->2<(j:Int)->ym n cs k t a b c j v x5:=λj key hkey e p1 p2 hj=>
  ⟨⟨v,eI t key a⟩,k,_,[.dead],TOk.fnt (h.put (.inr hkey) P.ha),Nat.le_succ _,sF (bM rfl rfl (xe p1)) rfl (sF (bM rfl rfl (xe p2)) rfl (sS (xT (bM rfl rfl (xd (decide_eq_true hj))) rfl (sS (FC rfl rfl (ci rfl rfl (ru e)) (yk (LN h.few (by decide)))) rfl)) (sR rfl)))⟩
 match f,hf with
 |0,_=>exact⟨⟨v,t⟩,k,_,[.dead],TOk.fnt h4,Nat.le_succ _,sF rfl rfl (sF rfl rfl (sF rfl rfl (sR rfl)))⟩
 |1,_=>
  obtain⟨r,hr,e39⟩:=AN (n:=n) (T:=[.dct (eB t)]) (m:=3) hc (LB hk (by decide)) (by decide) rfl;obtain⟨w,_,hw⟩:=iy [65537,0,1953784678] hr (by decide);exact⟨⟨w,t⟩,k+1,_,[.dead],TOk.fnt h4,LZ _,sS (xT rfl rfl (sA (ci rfl (av rfl e39) (ru hw)) rfl)) (sF rfl rfl (sF rfl rfl (sR rfl)))⟩
 |2,_=>exact⟨⟨v,[]⟩,k,_,[.dct (eB t),.dead],⟨.nil,λ_ h=>(by cases h),λ_ h=>(by cases h),Mr _⟩,Nat.le_succ _,sF rfl rfl (sS (xT rfl rfl (sA rfl rfl)) (sF rfl rfl (sR rfl)))⟩
 |3,_=>exact bad 3 [104,101,97] (by decide) rfl rfl rfl (by decide)
 |4,_=>exact bad 4 [104,101,97,100,115] (by decide) rfl rfl rfl (by decide)
 |5,_=>exact bad 5 [104,101,31,100] (by decide) rfl rfl rfl (by decide)
 |6,_=>exact bad 6 [104,101,127,100] (by decide) rfl rfl rfl (by decide)
end J.Internal
namespace J.Internal
noncomputable section
def tF(n:Nat)(cs:List V)(k:Nat)(a:List UInt8)(b:List UInt8)(c:List UInt8):Prop:=
 ∀(hc:gj cs)(hk:k<=900)(P:P3 a b c),∃(f:Fnt)(k':Nat),f.Ok/\k'<=k+20/\R (n+2) 40 [.obj 0,uW a b c] [fx cs k] = .ok f.V [fx cs k']
namespace Kf40
def zz:=ep (V6 tF)
def n:=zz.1
def k:=zz.2.2.1
theorem TT:tF n zz.2.1 k zz.2.2.2.1 zz.2.2.2.2.1 zz.2.2.2.2.2:=by
 intro hc hk P;obtain⟨r1,h1,e1⟩:=AN (n:=n) (T:=[]) (m:=14) hc (LB hk (by decide):k<=1000) (by decide) rfl;obtain⟨fault,hf2,hf⟩:=iy [0,0,1,0,0,2,0,0,6,0,4,0,5,3] h1 (by decide);obtain⟨r2,h2,e2⟩:=AN (n:=n) (T:=[]) (m:=3) hc (LB (MB hk 1) (by decide):k+1<=1000) (by decide) rfl;obtain⟨v,_,hv⟩:=iy [65536,1330926671,1953658213] h2 (by decide);obtain⟨r3,h3,e3⟩:=AN (n:=n) (T:=[.dct []]) (m:=3) hc (LB (MB hk 2) (by decide):k+1+1<=1000) (by decide) rfl;have h3:=Mi.mp h3;obtain⟨t,x5,t1,t2,e4⟩:=AR (n:=n) (k:=k+1+1+1) (m:=r3) (x2:=some (.int fault)) (x3:=some (.int v)) (x5:=none) hc (LB (MB hk 3) (by decide)) P h3;obtain⟨f,k',σ,T,g1,g2,e5⟩:=AS (n:=n) (k:=k+1+1+1+2*(r3+1)) (f:=fault) (v:=v) (x5:=x5) hc (LB (Mf (MB hk 3) (LX 2 h3)) (by decide)) P t1 ((by decide:∀f∈[0,0,1,0,0,2,0,0,6,0,4,0,5,3],f<=6) fault hf2);exact⟨f,k',g1,by omega,px (H1:=[fx zz.2.1 k']) (T:=T) rfl rfl (sA (ci rfl (av rfl e1) (ru hf)) (sA (ci rfl (av rfl e2) (ru hv)) (sA rfl (lG (ji (a1 (bn rfl (av rfl e3) rfl)) (FZ h3)) bS e4 e5)))) rfl rfl rfl⟩
end Kf40
end
theorem Ln{n cs k a b c}:tF n cs k a b c:=cN (p:=V6 tF) Kf40.TT (n,cs,k,a,b,c)
variable{n:Nat}{H T:Hp}
noncomputable def Fnt.alone(f:Fnt):J.Internal.V:=if f.good then .byt (rJ f)else .none
theorem jE{f:Fnt}(h:f.good=true):f.alone = .byt (rJ f):=if_pos h
theorem nW{f:Fnt}(h:f.good=false):f.alone = .none:=if_neg (h▸L8)
theorem uO(f:Fnt):f.alone.isObj=false:=by
 cases h:f.good with
 |true=>rw[jE h];rfl
 |false=>rw[nW h];rfl
theorem Lo{f:Fnt}(hw:Wf H)(o:f.Ok):R (n+6) 41 [f.V] H = .ok f.alone H:=by
 cases hg:f.good with
 |true=>rw[jE hg];exact cJ rfl rfl (sQ (yO (sR (av rfl (xP (n:=n) hw o hg))))) rfl rfl hw
 |false=>rw[nW hg];exact cJ rfl rfl (sQ (yX (rX (av rfl (An (n:=n+3) hw o hg))) (sR rfl))) rfl rfl hw
theorem li{fs:List Fnt}(hw:Wf H)(o:∀f∈fs,f.Ok)(hg:∀f∈fs,f.good=true)(h1:1<=fs.length)(h64:fs.length<=64):R (n+6) 42 [.lst (fs.map Fnt.V)] H = .ok (.byt (eQ fs)) H:=by
 exact cJ rfl rfl (sQ (yO (sR (av rfl (xZ (n:=n) hw o hg h1 h64))))) rfl rfl hw
theorem nX{fs:List Fnt}(hw:Wf H)(o:∀f∈fs,f.Ok)(h64:fs.length<=64)(hb:fs=[]\/fs.all Fnt.good=false):R (n+6) 42 [.lst (fs.map Fnt.V)] H = .ok .none H:=by
 have e:R (n+5) 38 [.lst (fs.map Fnt.V)] H = .exc H:=by
  rcases hb with rfl|hb
  ·exact xY (n:=n+4) hw
  ·exact AD (n:=n+1) hw o h64 hb
 exact cJ rfl rfl (sQ (yX (rX (av rfl e)) (sR rfl))) rfl rfl hw
theorem fT{f:V->Hp->Out (Option V)}{x v:V}{xs ws:List V}{H H1 H2:Hp}(h:f x H = .ok (some v) H1)(ho:v.isObj=false)(k:aE f xs H1 = .ok ws H2):aE f (x::xs) H = .ok (v::ws) H2:=by
 simp only[jj,gG,h,ce,k,ho,Bool.not_false,bu]
theorem yn{α:Type}{f:V->Hp->Out (Option V)}{g:α->V}(S:List α->List V->Hp->Prop)(l:List α)
  (hs:∀pre x post,l=pre++x::post->∀vs H,S pre vs H->∃v H',f (g x) H = .ok (some v) H'/\v.isObj=false/\S (pre++[x]) (vs++[v]) H') :
  ∀pre post,l=pre++post->∀vs H,S pre vs H->∃ws H',aE f (post.map g) H = .ok ws H'/\S l (vs++ws) H':=by
 intro pre post
 induction post generalizing pre with
 |nil=>intro e vs H h;rw[LW]at e;subst e;exact⟨[],H,rfl,by rw[LW];exact h⟩
 |cons x r ih=>
  intro e vs H h;obtain⟨v,H1,h1,h2,h3⟩:=hs pre x r e vs H h;obtain⟨ws,H2,h4,h5⟩:=ih (pre++[x]) (by rw[LG];exact e) (vs++[v]) H1 h3;exact⟨v::ws,H2,fT h1 h2 h4,by rw[LG]at h5;exact h5⟩
theorem mq{α:Type}{f:V->Hp->Out (Option V)}{g:α->V}(S:List α->List V->Hp->Prop)(l:List α){H:Hp}(h0:S [] [] H)
  (hs:∀pre x post,l=pre++x::post->∀vs H,S pre vs H->∃v H',f (g x) H = .ok (some v) H'/\v.isObj=false/\S (pre++[x]) (vs++[v]) H') :
  ∃ws H',aE f (l.map g) H = .ok ws H'/\S l ws H':=by
 have:=yn S l hs [] l rfl [] H h0;simpa using this
theorem rM:∀{vs:List V},(∀v∈vs,∃r:Nat,r<256/\v = .int r)->∃l,cR vs=some l/\l.length=vs.length:=by
 intro vs
 induction vs with
 |nil=>
  intro _;exact⟨[],rfl,rfl⟩
 |cons v vs ih=>
  intro h;obtain⟨r,hr,rfl⟩:=h v LL;obtain⟨l,h1,h2⟩:=ih λw hw=>h w (LK _ hw);have c1:(0:Int)<=r/\(r:Int)<256:=by omega
  exact⟨UInt8.ofNat r::l,by simp[tK,c1,h1],by simp[h2]⟩
theorem lj{cs:List V}{k:Nat}{x0:Option V}{τ:ai}{v:V}(hc:gj cs)(hk:k<=900) :
  ∃(b:List UInt8)(k':Nat),b.length<=6/\k'<=k+10/\cp (R (n+1)) He (.one 5) (x0::some (.obj 0)::τ) v [fx cs k] = .ok (some (.byt b)) [fx cs k']:=by
 obtain⟨r,h1,e1⟩:=AN (n:=n) (T:=[]) (m:=5) hc (LB hk (by decide):k<=1000) (by decide) rfl;obtain⟨m,hm,em⟩:=iy [0,3,4,1,6] h1 (by decide);have hm:=(by decide:∀m∈[0,3,4,1,6],m<=6) m hm;obtain⟨ws,H',e2,s1,s2,s3⟩:=mq (f:=cp (R (n+1)) (.call 39 (.cons (.var 1) (.cons (.cint 256) .nil))) (.one 6) (ao (x0::some (.obj 0)::τ) 5 v)) (g:=λk:Nat=>V.int k)
  (λpre vs H'=>vs.length=pre.length/\(∀v∈vs,∃r:Nat,r<256/\v = .int r)/\H'=[fx cs (k+1+pre.length)]) (List.range m) (H:=[fx cs (k+1)]) ⟨rfl,λ_ h=>(by cases h),rfl⟩ λpre x post he vs H1 ⟨h1,h2,h3⟩=>by
   subst h3;have hp:pre.length<=6:=LB (kF he) hm;obtain⟨q,hq,eq⟩:=AN (n:=n) (k:=k+1+pre.length) (T:=[]) (m:=256) hc (by lia) (by decide) rfl;refine⟨.int q,[fx cs (k+1+pre.length+1)],ik (av rfl eq),rfl,?_,λw hw=>?_,?_⟩
   ·rw[LC,LC,h1];rfl
   ·rcases Mm.mp hw with w'|w'
    ·exact h2 w w'
    ·exact⟨q,Mi.mp hq,LJ.mp w'⟩
   ·rw[LC,Mb];rfl
 rw[Mk]at s1 s3;subst s3;obtain⟨l,t1,t2⟩:=rM s2;exact⟨l,k+1+m,t2▸s1▸hm,by lia,ik (n0 (dB (ji (a1 (ci rfl (av rfl e1) (ru em))) (pA (LB hm (by decide)))) bS e2 rfl) (bytes_lst.trans (congrArg (λo=>bo o λl=>.ok (V.byt l) _) t1)))⟩
theorem yo{cs:List V}{k:Nat}{x0:Option V}{τ:ai}(hc:gj cs)(hk:k<=100) :
  ∃(a b c:List UInt8)(k':Nat),P3 a b c/\k'<=k+30/\ev prog (R (n+1)) (.comp false He (.one 5) (.rng (.cons (.cint 3) .nil))) (x0::some (.obj 0)::τ) [fx cs k] = .ok (uW a b c) [fx cs k']:=by
 obtain⟨a,k1,ha,h1,e1⟩:=lj (n:=n) (x0:=x0) (τ:=τ) (v:=.int (0:Nat)) hc (LB hk (by decide):k<=900);obtain⟨b,k2,hb,h2,e2⟩:=lj (n:=n) (x0:=x0) (τ:=τ) (v:=.int (1:Nat)) hc (LB h1 (LB (MB hk 10) (by decide)):k1<=900);obtain⟨c,k3,hc',h3,e3⟩:=lj (n:=n) (x0:=x0) (τ:=τ) (v:=.int (2:Nat)) hc (LB h2 (LB (MB (LB h1 (MB hk 10)) 10) (by decide)):k2<=900);exact⟨a,b,c,k3,⟨ha,hb,hc'⟩,LB h3 (MB (LB h2 (MB h1 10)) 10),dB (own:=false) (ji rfl (pA (by decide:3<=aq))) bS (fT e1 rfl (fT e2 rfl (fT e3 rfl rfl))) rfl⟩
end J.Internal
namespace J.Internal
noncomputable section
def dG(n:Nat)(cs:List V)(k:Nat)(m:Nat)(a:List UInt8)(b:List UInt8)(c:List UInt8)(x0:Option V)(x2:Option V)(τ:ai):Prop:=
 ∀(hc:gj cs)(hk:k<=200)(P:P3 a b c)(hm:m<=3),∃(fs:List Fnt)(k':Nat),(∀f∈fs,f.Ok)/\fs.length=m/\k'<=k+60/\ev prog (R (n+2)) (.comp false (.call 40 (.cons (.var 1) (.cons (.var 4) .nil))) (.one 5) (.rng (.cons (.var 3) .nil))) (x0::some (.obj 0)::x2::some (.int m)::some (uW a b c)::τ) [fx cs k] = .ok (.lst (fs.map Fnt.V)) [fx cs k']
namespace Kfonts_all
def zz:=ep (uX dG)
def n:=zz.1
def cs:=zz.2.1
def k:=zz.2.2.1
def m:=zz.2.2.2.1
def x0:=zz.2.2.2.2.2.2.2.1
def x2:=zz.2.2.2.2.2.2.2.2.1
theorem TT:dG n cs k m zz.2.2.2.2.1 zz.2.2.2.2.2.1 zz.2.2.2.2.2.2.1 x0 x2 zz.2.2.2.2.2.2.2.2.2:=by
 intro hc hk P hm;obtain⟨ws,H',e2,fs,s1,s2,s3,k',s4,s5⟩:=mq (f:=cp (R (n+2)) (.call 40 (.cons (.var 1) (.cons (.var 4) .nil))) (.one 5) (x0::some (.obj 0)::x2::some (.int m)::some (uW zz.2.2.2.2.1 zz.2.2.2.2.2.1 zz.2.2.2.2.2.2.1)::zz.2.2.2.2.2.2.2.2.2)) (g:=λk:Nat=>V.int k)
  (λpre vs H'=>∃fs:List Fnt,vs=fs.map Fnt.V/\fs.length=pre.length/\(∀f∈fs,f.Ok)/\∃k',k'<=k+20*pre.length/\H'=[fx cs k']) (List.range m) (H:=[fx cs k]) ⟨[],rfl,rfl,λ_ h=>(by cases h),k,LZ _,rfl⟩ λpre x post he vs H1 ⟨fs,h1,h2,h3,k1,h4,h5⟩=>by
   subst h5;have hp:pre.length<=3:=LB (kF he) hm;obtain⟨f,k2,g1,g2,e⟩:=Ln (n:=n) (k:=k1) hc (by lia) P;refine⟨f.V,_,ik (av rfl e),rfl,fs++[f],by rw[Mh,h1];rfl,by rw[LC,LC,h2];rfl,λg hg=>?_,k2,?_,rfl⟩
   ·rcases Mm.mp hg with w|w
    ·exact h3 g w
    ·rw[LJ.mp w];exact g1
   ·rw[LC,Mb];lia
 rw[Mk]at s2 s4;subst s5;subst s1;exact⟨fs,k',s3,s2,by lia,dB (own:=false) (ji rfl (pA (LB hm (by decide)))) bS e2 rfl⟩
end Kfonts_all
end
theorem uP{n cs k m a b c x0 x2 τ}:dG n cs k m a b c x0 x2 τ:=cN (p:=uX dG) Kfonts_all.TT (n,cs,k,m,a,b,c,x0,x2,τ)
variable{n:Nat}{H T:Hp}
noncomputable def iz(i:Int):V:=.int (2*(i.natAbs:Int)+(if i<0 then 1 else 0))
theorem DO(i:Int):aL .add (.int (2*(i.natAbs:Int))) (.int (if decide (i<0)then 1 else 0)) [] = .ok (iz i) []:=by
 unfold iz
 by_cases w:i<0
 ·rw[if_pos w,decide_eq_true w];rfl
 ·rw[if_neg w,decide_eq_false w];rfl
theorem yp{ns:List Int}{x y:Option V}{τ:ai}:ev prog (R n) (.comp false Hf (.one 2) (.slTo (.var 0) (.cint 40))) (some (.lst (ns.map .int))::x::y::τ) [] = .ok (.lst ((ns.take 40).map iz)) []:=by
 have hc:aE (cp (R n) Hf (.one 2) (some (.lst (ns.map .int))::x::y::τ)) ((ns.take 40).map .int) [] = .ok ((ns.take 40).map iz) []:=
  aQ λi _=>⟨ik (bn (bn rfl rfl (pw (by decide))) rfl (DO i)),rfl⟩
 have hs:mw (.lst (ns.map .int)) 40 [] = .ok (.lst ((ns.take 40).map .int)) []:=by
  show guard (decide ((0:Int)<=40)&&decide ((40:Int)<2 ^ 62)) _=_;rw[show(decide ((0:Int)<=40)&&decide ((40:Int)<2 ^ 62))=true by decide,bu,List.map_take]
  rfl
 exact dB (own:=false) hs rfl hc rfl
theorem yq(ns:List Int):gj ((ns.take 40).map iz):=⟨by rw[LF,Mx];omega,λv hv=>by
 obtain⟨i,_,rfl⟩:=Mc.mp hv
 exact⟨_,rfl⟩⟩
theorem mr:∀fs:List Fnt,ln .none (fs.map Fnt.alone)=some (fs.any λf=>!f.good)
 |[]=>rfl
 |f::r=>by
  have ih:ms (r.map Fnt.alone)=_:=mr r;show ms (f.alone::r.map Fnt.alone)=some (!f.good||r.any λf=>!f.good)
  cases hg:f.good with
  |true=>
   rw[jE hg];show(ms (r.map Fnt.alone)).map (false||·)=_;rw[ih];rfl
  |false=>
   rw[nW hg];show(ms (r.map Fnt.alone)).map (true||·)=_;rw[ih];rfl
theorem AT(fs:List Fnt):(fs.any λf=>!f.good) = !(fs.all Fnt.good):=by
 induction fs with
 |nil=>rfl
 |cons f r ih=>simp[List.any_cons,List.all_cons,ih,Bool.not_and]
theorem AU{fs:List Fnt}(o:∀f∈fs,f.Ok)(hg:∀f∈fs,f.good=true)(h1:1<=fs.length)(h64:fs.length<=64):((List.range fs.length).map λj=>gE (eQ fs) (bI (eQ fs) j))=fs.map Fnt.sV:=by
 have h:=(nV o hg h1 h64).2.1;refine List.ext_getElem (by simp) λj hj hj'=>?_;have hj2:j<fs.length:=by simpa using hj'
 rw[List.getElem_map,List.getElem_map,List.getElem_range,h j hj2]
noncomputable def sg(x0 x3 x4:Option V)(fs:List Fnt)(v:V):ai:=[x0,some (.obj 0),none,x3,x4,none,none,some (.lst (fs.map Fnt.V)),some (.lst (fs.map Fnt.V)),none,none,some (.lst (fs.map Fnt.alone)),none,some v,none,none]
theorem JO{p:Fnt->Prop}{f:Fnt}{r:List Fnt}(o:∀g∈f::r,p g):∀g∈f::r++[f],p g:=λg hm=>(Mm.mp hm).elim (o g) λw=>LJ.mp w▸o f LL
theorem yr{pn:O}{fs:List Fnt}(hw:Wf [pn])(o:∀f∈fs,f.Ok)(hg:∀f∈fs,f.good=true)(h1:1<=fs.length)(h64:fs.length<=64):R (n+7) 28 [.byt (eQ fs)] [pn] = .ok (.lst (fs.map Fnt.sV)) [pn]:=
 (Lf (n:=n) hw (nV o hg h1 h64).1).trans (congrArg (λl=>Out.ok (V.lst l) [pn]) (AU o hg h1 h64))
theorem yt{pn:O}{f:Fnt}{r:List Fnt}{x0 x3 x4:Option V}(hw:Wf [pn])(o:∀g∈f::r,g.Ok)(hg:∀g∈f::r,g.good=true)(h3:(f::r).length<=3) :
  ∃σ,bA prog (R (n+7)) Jk (sg x0 x3 x4 (f::r) (.byt (eQ (f::r)))) [pn] = .ok (.ret (.bool true),σ) [pn]:=by
 have e28:=yr (n:=n) hw o hg (Ms _) (LB h3 (by decide))
 have hc:aE (cp (R (n+7)) (.call 26 (.cons (.var 14) .nil)) (.one 14) (sg x0 x3 x4 (f::r) (.byt (eQ (f::r))))) ((f::r).map Fnt.alone) [pn] = .ok ((f::r).map Fnt.sV) [pn]:=
  aQ λg hf=>by
   have hr:=AI (o g hf) (hg g hf);have e26:=Ld (n:=n) hw hr.1;rw[hr.2]at e26;rw[jE (hg g hf)];exact⟨ik (av rfl e26),rfl⟩
 have p1:=jC (g:=Fnt.sV) (h:=Fnt.sV) (l:=f::r) λf hf=>Fnt.ss (o f hf);have p2:=jC (g:=Fnt.sV) (h:=Fnt.V) (l:=f::r) λf hf=>Fnt.s_self (o f hf);have hl2:(f::r++[f]).length<=64:=by rw[LC];exact LB (MB h3 1) (by decide)
 have o2:=JO o;have g2:=JO hg;have hV:(f::r).map Fnt.V++[f.V]=(f::r++[f]).map Fnt.V:=by rw[Mh];rfl
 have hLV:((f::r).map Fnt.V++[f.V]).length<=aq:=by rw[hV,LF];exact LB hl2 (by decide)
 have e42:=li (n:=n+1) hw o2 g2 (Ms _) hl2;have p3:=jC (g:=Fnt.sV) (h:=Fnt.V) (l:=f::r++[f]) λg hm=>Fnt.s_self (o2 g hm);rw[<-hV]at e42 p3
 have hpe:n6 (.int (eQ (f::r++[f])).length) (.int ((eQ (f::r)).length+16+16*(f.kv.length:Int)))=some true:=by
  rw[yg o hg (LN h3 (by decide)),Fnt.kv_len];exact congrArg some (beq_iff_eq.mpr (by omega))
 exact⟨_,sF (DZ (bM (av rfl e28) (dB (own:=false) rfl rfl hc rfl) (GT p1)) (bM (av rfl e28) rfl (GT p2))) rfl
  (sA (av (a1 (bn rfl rfl (s8 hLV))) e42)
  (sR (FE (lH rfl (bn rfl (bn rfl rfl (pw (by decide))) rfl) (xe hpe))
   (lH (av rfl (yr (n:=n) hw o2 g2 (Ms _) hl2)) (bn rfl rfl (s8 hLV)) (xe p3)))))⟩
theorem AV{pn:O}{fs:List Fnt}{x0 x3 x4:Option V}{v:V}(hw:Wf [pn])(o:∀f∈fs,f.Ok)(h3:fs.length<=3)(e42:R (n+7) 42 [.lst (fs.map Fnt.V)] [pn] = .ok v [pn]):∃σ,bA prog (R (n+7)) Hg (sg x0 x3 x4 fs v) [pn] = .ok (.ret (.bool true),σ) [pn]:=by
 have ne:=GT (H:=[pn]) (jC (g:=Fnt.V) (h:=Fnt.V) (l:=fs) λf hf=>Fnt.self (o f hf));have pa:=(mr fs).trans (congrArg some (AT fs));have pe:=jy (xs:=fs.map Fnt.V)
 have bad:∀{b:Bool},(n6 (.lst (fs.map Fnt.V)) (.lst [])=some b)->(fs.all Fnt.good=false\/b=true)->v = .none->∃σ,bA prog (R (n+7)) Hg (sg x0 x3 x4 fs v) [pn] = .ok (.ret (.bool true),σ) [pn]:=λ{b} q hb hv=>by
  subst hv;refine⟨_,sF (DZ (bM rfl rfl ne) (bM (v:=.bool true) rfl (w:=.bool true) ?_ rfl)) rfl (sQ (xT rfl rfl (sR rfl)))⟩
  cases hx:fs.all Fnt.good with
  |false=>rw[hx]at pa;exact IO (lH rfl rfl (congrArg (optB · _) pa))
  |true=>
   rw[hx]at pa;have hb:=hb.resolve_left (λh=>by rw[hx]at h;cases h);exact JB (lH rfl rfl (congrArg (optB · _) pa)) (lH rfl rfl (hb▸xe q))
 cases fs with
 |nil=>exact bad (b:=true) rfl (.inr rfl) (by have:=(nX (n:=n+1) hw o (by decide) (.inl rfl)).symm.trans e42;injection this with this;exact this.symm)
 |cons f r=>
  cases hx:(f::r).all Fnt.good with
  |false=>exact bad pe (.inl hx) (by have:=(nX (n:=n+1) hw o (LB h3 (by decide)) (.inr hx)).symm.trans e42;injection this with this;exact this.symm)
  |true=>
   have hg:=L9.mp hx;have hv:v = .byt (eQ (f::r)):=by have:=(li (n:=n+1) hw o hg (Ms _) (LB h3 (by decide))).symm.trans e42;injection this with this;exact this.symm
   subst hv;rw[hx]at pa;obtain⟨σ,et⟩:=yt (n:=n) (x0:=x0) (x3:=x3) (x4:=x4) hw o hg h3;exact⟨σ,sF (DZ (bM rfl rfl ne) (bM (w:=.bool false) rfl (JB (lH rfl rfl (congrArg (optB · _) pa)) (lH rfl rfl (xe pe))) rfl)) rfl (sF rfl rfl et)⟩
theorem yu(ns:List Int):R (n+8) 43 [.lst (ns.map .int)] [] = .ok (.bool true) []:=by
 have hc:=yq ns;obtain⟨r1,h1,e1⟩:=AN (n:=n+6) (k:=0) (T:=[]) (m:=5) hc (Mr _) (by decide) rfl;obtain⟨m,hm,em⟩:=iy [2,1,3,0,3] h1 (by decide);have hm:=(by decide:∀m∈[2,1,3,0,3],m<=3) m hm;obtain⟨a,b,c,k2,P,hk2,e2⟩:=yo (n:=n+6) (k:=0+1) (x0:=some (.lst (ns.map .int))) (τ:=[none,some (.int m),none,none,none,none,none,none,none,none,none,none,none,none]) hc (by decide);obtain⟨fs,k3,o,hl,hk3,e3⟩:=uP (n:=n+5) (k:=k2) (m:=m) (x0:=some (.lst (ns.map .int))) (x2:=none) (τ:=[none,none,none,none,none,none,none,none,none,none,none]) hc (LB hk2 (by decide)) P hm;have hl3:fs.length<=3:=hl▸hm
 obtain⟨v,e42⟩ : ∃v,R (n+7) 42 [.lst (fs.map Fnt.V)] [fx ((ns.take 40).map iz) k3] = .ok v [fx ((ns.take 40).map iz) k3]:=by
  by_cases hall:fs≠[]/\fs.all Fnt.good=true
  ·exact⟨_,li (n:=n+1) rfl o (L9.mp hall.2) (List.length_pos_iff.mpr hall.1) (LB hl3 (by decide))⟩
  ·exact⟨_,nX (n:=n+1) rfl o (LB hl3 (by decide)) ((LY (fs=[])).imp id λh=>Bool.eq_false_iff.mpr λw=>hall ⟨h,w⟩)⟩
 obtain⟨σ,et⟩:=AV (n:=n) (pn:=fx ((ns.take 40).map iz) k3) (x0:=some (.lst (ns.map .int))) (x3:=some (.int m)) (x4:=some (uW a b c)) rfl o hl3 e42
 exact px (H1:=[]) (T:=[fx ((ns.take 40).map iz) k3]) rfl rfl (sA (FD (aC yp rfl) rfl rfl) (sA (ci rfl (av rfl e1) (ru em)) (sA e2 (sA e3
  (sA (dB (own:=false) rfl rfl (aQ (k:=Fnt.V) λf hf=>⟨rfl,rfl⟩) rfl)
  (sA (dB (own:=false) rfl rfl (aQ (k:=Fnt.alone) λf hf=>⟨ik (av rfl (Lo (n:=n+1) rfl (o f hf))),uO f⟩) rfl)
  (sA (av rfl e42) et))))))) rfl rfl rfl
end J.Internal
namespace J.Internal
open Sem (wp)
theorem nY:Clean ⟨.builtin "claim.caller" {},none,none,[],none⟩:=⟨by decide +kernel,λ_ h=>(by cases h)⟩
theorem DP{prog:Program}{w:World}{t:Sem PySem.Fin}{s:Shared}{R:Result->Shared->Prop}(hreg:s.asleep)
  (h:wpS (model prog w) callerA t (λfin s'=>∃f,fin = .done f/\(R (.ok f) s'/\leftWithCleanup s'.gens=false)) (λe s'=>R (.error e) s'/\leftWithCleanup s'.gens=false) s) :
  ∃n r s' s'',runN (denote table) prog w n s ⟨t,.builtin "claim.caller" {},default,[]⟩ = .halted (outcomeOf r) s'/\
   schedN (denote table) prog w n (.single s ⟨t,.builtin "claim.caller" {},default,[]⟩) = .halted (outcomeOf r) s'/\s'.forget=s''.forget/\R r s'':=by
 have hw:wp (model prog w) ⟨.builtin "claim.caller" {},none,none,[],none⟩ t (Sem.finPost (model prog w) ⟨.builtin "claim.caller" {},none,none,[],none⟩ (λr s'=>R r s'/\leftWithCleanup s'.gens=false)) (λe _ s'=>R (.error e) s'/\leftWithCleanup s'.gens=false) default s:=by
  refine Sem.wp_mono _ _ t (λfin p' s' h'=>?_) (λ_ _ _ h'=>h') _ s (h _ default caller_in nY);obtain⟨f,rfl,hf⟩:=h';exact hf
 obtain⟨n,r,s₁,s₂,hs,hn,hfo,hR⟩:=wp_halts_full (M:=model prog w) (R:=R) hreg hw;exact⟨n,r,s₂,s₁,hn,hs,hfo,hR⟩
noncomputable section
def cX(tree:List Value->Sem PySem.Fin)(w:World)(s:Shared)(free:Addr->Prop)(gens:Prop)(eM:Heap->Prop):Prop:=
 ∀{c:ClaimW}(hz:s.asleep)(hgens:s.gens = #[])(hspec:∀args,c.pre args=true->WData.layableAll args=true->
   ∀ord:List DictEntry->List DictEntry,(∀l,(ord l).Perm l)->
   ∃vs s₁,layAllW c.records (classAt s.heap) w.params ord args s=some (vs,s₁)/\
    wpS (model c.prog w) callerA (tree vs) (λfin s'=>∃f,fin = .done f/\(c.Ends s args vs s₁ (.ok f) s'/\s'.os=s.os/\AllBare s'.gens/\eM s'.heap))
     (λe s'=>c.Ends s args vs s₁ (.error e) s'/\s'.os=s.os/\AllBare s'.gens/\eM s'.heap) s₁),c.CallFrom (λvs=>⟨tree vs,.builtin "claim.caller" {},default,[]⟩) w free gens eM s
namespace KcallFrom_S
def z:=ep (V6 cX)
def w:=z.2.1
def s:=z.2.2.1
def eM:=z.2.2.2.2.2
theorem T:cX z.1 w s z.2.2.2.1 z.2.2.2.2.1 eM:=by
 intro c hz hgens hspec;intro args hpre hlay ord hord;obtain⟨vs,s₁,hlaid,hcode⟩:=hspec args hpre hlay ord hord;have hal:=layAllW_rest _ _ _ hlaid;obtain⟨k,r,s',s'',hrun,hsched,hfo,hcase,hos,hkp⟩:=DP (prog:=c.prog) (w:=w) (t:=z.1 vs) (s:=s₁)
  (R:=λr s'=>c.Ends s args vs s₁ r s'/\s'.os=s.os/\eM s'.heap)
  (Shared.asleep_of_life hal.2.2.2 hz)
  (ag hcode (by
   rintro fin s' ⟨f,e,h1,h2,h3,h4⟩
   exact⟨f,e,⟨h1,h2,h4⟩,leftWithCleanup_false_of_bare h3⟩) (by
   rintro e s' ⟨h1,h2,h3,h4⟩
   exact⟨⟨h1,h2,h4⟩,leftWithCleanup_false_of_bare h3⟩))
 obtain⟨eh,_,_,eo,_⟩:=Shared.forget_eq hfo;have hcase:=hcase.congr eh;have hkp:eM s'.heap:=by first|exact eh▸hkp|(rw[eh]at hkp;exact hkp)|(rw[<-eh]at hkp;exact hkp)
 rw[<-eo]at hos;have hlife:s'.heap.life=s.heap.life:=(runN_life _ _ _ hrun).trans hal.2.2.2;refine⟨vs,s₁,hlaid,k,_,s',hsched,?_,(λ_ i x hx=>by rw[hgens]at hx;simp at hx),hkp,by rw[hlife],Shared.rest_eq hos⟩;rcases hcase with ⟨v,rfl,d1,d2,d3,d4,d5⟩|⟨e,ob,cls,rfl,d1,d2,d3,d4,d5⟩
 ·exact .inl ⟨v,rfl,d1,d2,d3,λb o y _=>d4 b o y,d5⟩
 ·exact .inr ⟨e,ob,cls,rfl,d1,d2,d3,d4,λb o y _=>d5 b o y⟩
end KcallFrom_S
end
theorem rN{tree w s free gens eM}:cX tree w s free gens eM:=cN (p:=V6 cX) KcallFrom_S.T (tree,w,s,free,gens,eM)
noncomputable abbrev BE(q:Program)(loose:List Str)(XP:(Str->Option Value)->Heap->Prop)(YP:World->Heap->Prop)(r:RowW)(d:DefRec):Prop:=
 ∀(w:World)(s₀ s₁:Shared)(mg mb:Str->Option Value),Ground q loose r.records XP w s₀ mg mb s₁.heap->YP w s₁.heap->∀(a:Addr),mg d.name=some (.ref a)->
  ∀(args:List WData)(vals:List Value)(as:List Addr),r.claim.pre args=true->Laid r.records w s₀ s₁ args vals as->
   wpS (model r.prog w) callerA (PySem.call (.ref a) vals) (λv s'=>GoodWG r.claim (classAt s₀.heap) (ExcName.means s₀.heap) args s₁ (.ok (.ret v)) s')
    (λe s'=>GoodWG r.claim (classAt s₀.heap) (ExcName.means s₀.heap) args s₁ (.error e) s') s₁
end J.Internal
open Sem (wp)
namespace Jq
open J.Internal
theorem PySem.W.holds_open{r:OpenRow}{q:Program}{loose:List Str}{Xt:Shared->Bool}{XP:(Str->Option Value)->Heap->Prop}{α:Type}{Yf:Shared->α}{Ya:World->α}{YP:World->Heap->Prop}{d:DefRec}{kwd:List (Str × Expr)}{N:Nat}
  (left:LeftO r.prog q loose Xt Yf Ya N) (hY:∀w s,Yf s=Ya w->YP w s.heap) (hYk:∀w h h',YP w h->(∀b o,h.get? b=some o->h'.get? b=some o)->YP w h')
  (hX:∀s,Xt s=true->XP (s.heap.nsMap mainGlobals) s.heap) (hXk:∀mg h h',XP mg h->(∀b o,h.get? b=some o->h'.get? b=some o)->XP mg h')
  (hdef:defOf q r.name=some (d,kwd)) (hp:r.prog.theDef r.name=some (d.params,d.body,d.scope)) (hk:kwWritten? d.params.kwonlyargs d.params.kw_defaults=some kwd) (hRf:∀s,Xt s=true->RecFacts r.records s.heap) (hwr:(!r.writes||r.records.isEmpty)=true)
  (k1:r.wellSaid=true) (ok:(chainsOk q&&opensWell r.prog&&(frees r.toRowW&&r.within.isEmpty))=true) (hb:r.prog.bare) (hw:r.toRowW.promised)
  (call:BE q loose XP YP r.toRowW d):r.Holds:=by
 refine⟨k1,hw,?_⟩;obtain⟨ok,k5⟩:=LD.mp ok;obtain⟨hch,o1⟩:=LD.mp ok;obtain⟨k5,k6⟩:=LD.mp k5;obtain⟨hsame,hu,ha,hap,hm⟩:=frees_parts k5;refine⟨⟨hb,o1,by show r.toRowW.makers.map _=[];rw[hm];rfl⟩,hw.witness,λw=>⟨(left.behind hX hch w).1,λs' hs'=>?_⟩⟩;obtain⟨s₀,hf,hg0,s,hT,hz,hgens,hg,G00,y⟩:=(left.behind (XP:=λmg h=>XP mg h/\RecFacts r.records h) (λs hs=>⟨hX s hs,hRf s hs⟩) hch w).2 s' hs';have G0:Ground q loose [] XP w s (s.heap.nsMap mainGlobals) (s.heap.nsMap builtinsNs) s.heap:=⟨G00.T,G00.B,G00.D,G00.TE,G00.TD,G00.W,G00.X.1,G00.cls,G00.has,G00.apart,G00.once,G00.K⟩;have RF:=G00.X.2;have hT':=hT;refine⟨s₀,hf,hg0,s,hT,λn hn=>?_,RF.1,RF.2.1,?_⟩
 ·obtain rfl:n=r.name:=by split at hn<;>simp_all
  exact pinned_of_view hg G0 hdef hp hk
 have hgens:s.gens = #[]:=Array.eq_empty_of_size_eq_zero (beq_iff_eq.mp hgens);have G:Ground q loose r.records XP w s _ _ s.heap:=RF.ground G0;refine rN (c:=r.toRowW.claim) hz hgens λargs hpre hlay ord hord=>?_;obtain⟨⟨vs,s₁⟩,hlaid⟩:=Option.isSome_iff_exists.mp (layAllW_isSome (P:=w.params) (ord:=ord) G.has args r.args s (pre_splitW hpre).1);have keeps:=layAllW_keeps _ _ _ hlaid;have hal:=layAllW_rest _ _ _ hlaid;obtain⟨as,hrd,hin,hold⟩:=reads_layAllW hord _ _ _ hlaid hlay s₁.heap (λ_ _ e=>e);have L:Laid r.records w s s₁ args vs as:=⟨⟨ord,hord,hlaid⟩,hrd,hin,hold,keeps,hal.1.trans hgens,hal.2.2.1⟩;have G₁:=G.keeps hXk keeps;obtain⟨a,o,pm,cd,doc,dV,kV,h1,h2,h3,h4,h5⟩:=G₁.fn hdef;have h:=call w s s₁ _ _ G₁ (hYk _ _ _ (hY w s y) keeps) a (defOf_name hdef▸h1) args vs as hpre L;have hi:=ident_freeW hu ha hap;have hwi:r.toRowW.claim.within=[]:=List.isEmpty_iff.mp k6;refine⟨vs,s₁,hlaid,aa (ah (wpAny_nsGet G₁.T.g ?_))⟩;rw[h1];refine aa (ag h (λv s' g=>ae ⟨_,rfl,?_⟩) λe s' g=>?_)
 ·have z:=g.laid (c:=r.toRowW.claim) hsame hwi hi L;exact⟨z.1,z.2.1,z.2.2,λq=>⟨namesKept_of hT' hg _ keeps g.2.1.old,noTable hwr q⟩⟩
 ·have z:=g.laid (c:=r.toRowW.claim) hsame hwi hi L;exact⟨z.1,z.2.1,z.2.2,λq=>⟨namesKept_of hT' hg _ keeps g.2.1.old,noTable hwr q⟩⟩
end Jq
namespace J.Internal
section
variable{α:Type}
noncomputable def tL(f:Nat->α)(n:Nat):List α:=n.rec [] λn g=>f n::g
noncomputable def tR(f:Nat->α)(n:Nat):List α:=n.rec [] λn g=>f n::g
theorem aZ{f g:Nat->α}:∀{n:Nat},tL f n=tR g n->∀i,i<n->f i=g i
 |n+1,h,i,hi=>(Nat.lt_or_eq_of_le (Mz hi)).elim (aZ (List.cons.inj h).2 i) λw=>w▸(List.cons.inj h).1
end
noncomputable def pP(v:Value):Addr:=match v with
 |.ref a=>a
 |_=>0
noncomputable def DQ(v:Value):Tok:=match v with
 |.int _ t=>t
 |.str _ t=>t
 |_=>0
noncomputable def F0(v:Value):Str:=match v with
 |.str x _=>x
 |_=>S' []
noncomputable def F1(o:Option (Option Value)):Value:=(o.getD none).getD .none
noncomputable def yv(o:Option (Option Value)):Addr:=pP (F1 o)
noncomputable def ob(K:Frag)(a:Addr):Obj:=(K.lookup a).getD default
noncomputable def JP(o:Obj):FuncData:=match o.data with
 |.func x=>x
 |_=>default
noncomputable def Lp(o:Obj):ClassData:=match o.data with
 |.cls x=>x
 |_=>default
noncomputable def F3(o:Obj):List Value:=match o.data with
 |.seq x _=>x.toList
 |.fields x=>x.toList
 |_=>[]
noncomputable def Lq(o:Obj):Nat:=match o.data with
 |.seq _ n=>n
 |_=>0
noncomputable def JQ(x:FuncData):List Stmt:=match x.body with
 |.stmts b=>b
 |_=>[]
noncomputable def uQ(K:Frag)(c:Nat):Addr:=yv (nsIn K mainGlobals (S' (CQ c)))
noncomputable def yw(K:Frag)(f:Nat):Addr:=yv (if bv f=99 then nsIn K mainGlobals (S' (ph f))else findIn K (.ref (uQ K (bv f))) (S' (ph f)))
noncomputable def F4(f:Nat):List Str:=(slotNames f).map Str.ofString
noncomputable def Lr(x:FuncData)(a:Addr)(nm:List Str):D9:=⟨a,x.name,x.qualname,x.params,JQ x,x.scope,x.defaults,x.kwdefaults,x.doc,x.pyModule,x.code,x.closureTuple,x.annotations,nm⟩
noncomputable def tG(K:Frag)(f:Nat):D9:=Lr (JP (ob K (yw K f))) (yw K f) (F4 f)
noncomputable def Gk(K:Frag)(p:Program)(w:World)(B:Heap):Cx:={p:=p,w:=w,B:=B,ca:=uQ K,an:=uU,cF:=.ref (yv (nsIn K mainGlobals (S' EV))),K:=K,fd:=tG K,gn:=λf=>S' (ph f)}
noncomputable def JR(K:Frag)(f:Nat):=(K.lookup (yw K f),codeIn K (tG K f).cdv (tG K f).qual,(tG K f).scope.isCoroutine,(tG K f).scope.isGenerator,(tG K f).scope.kind,decide (F4 f).Nodup&&decide (q9 f<=(F4 f).length),((F4 f).take (q9 f)).all (zP (tG K f).scope)&&(tG K f).scope.names.all λq=>!decide (q.2 = .free))
noncomputable def JS(K:Frag)(f:Nat):=(some (⟨(ob K (yw K f)).cls,(ob K (yw K f)).dict,.func (vR (tG K f)),(ob K (yw K f)).slots⟩ : Obj),true,false,false,ScopeKind.function,true,true)
noncomputable def I7(K:Frag)(f:Nat)(S:Setting)(g:Nat->Value):=peek K S (bindArgs (vR (tG K f)) ⟨(List.range (q9 f)).map g,[]⟩)
noncomputable def I8(K:Frag)(f:Nat)(S:Setting)(g:Nat->Value):=some (((F4 f).take (q9 f)).zip ((List.range (q9 f)).map g))
noncomputable def JT(K:Frag)(f:Nat):=(keepIn K (.ref (yw K f)),(if bv f=99 then nsIn K mainGlobals (S' (ph f))else findIn K (.ref (uQ K (bv f))) (S' (ph f))),(if bv f=99 then some (.type "function")else typeIn K (.ref (yw K f))),(List.range 8).all λk=>!(gp (bv f) k&&decide (uU k=ph f)))
noncomputable def JU(K:Frag)(f:Nat):=(true,some (some (Value.ref (yw K f))),some (Value.type "function"),true)
noncomputable def JV(K:Frag)(c:Nat):=(plainGet K (uQ K c) (S' [])&&hasDictIn K (uQ K c)&&plainOver K (uQ K c),findIn K (.ref (uQ K c)) "__setattr__", tL (λk=>if gp c k=true then findIn K (.ref (uQ K c)) (S' (uU k))else some none) 8,
 nsIn K mainGlobals (S' (CQ c)),findIn K (.ref (uQ K c)) "__init__", typeIn K (.ref (yw K (yC c))),makesIn K (uQ K c)&&keepIn K (.ref (uQ K c))&&decide (yC c<44))
noncomputable def JW(K:Frag)(c:Nat):=(true,some (some (Value.builtin "object.__setattr__")),tR (λ_=>some (none:Option Value)) 8,some (some (Value.ref (uQ K c))),some (some (Value.ref (yw K (yC c)))),some (Value.type "function"),true)
noncomputable def b1s:List B1:=[.len,.abs,.int,.chr,.ord,.bytes,.dict,.sorted,.min,.max]
noncomputable def JX(K:Frag):=(b1s.map λop=>nsIn K mainGlobals (S' (nB op)),nsIn K mainGlobals (S' pi),nsIn K mainGlobals (S' Gi))
noncomputable def JY:=(b1s.map λ_=>some (none:Option Value),some (none:Option Value),some (none:Option Value))
noncomputable def F5(K:Frag)(k:Nat):Value:=F1 (nsIn K mainGlobals (S' (zB k)))
noncomputable def cV:V->Value->Value
 |.int i,v=>.int i (DQ v)
 |.str l,v=>.str ⟨l.toArray⟩ (DQ v)
 |_,v=>v
noncomputable def F6(l:List V):List Value->List Value:=l.rec (λ_=>[]) λx _ g vs=>cV x (vs.headD .none)::g vs.tail
noncomputable def Ls(x:V):List V:=match x with
 |.tup xs=>xs
 |_=>[]
noncomputable def JZ(K:Frag)(k:Nat):=(nsIn K mainGlobals (S' (zB k)),if k=0\/k=7 then K.lookup (pP (F5 K k))else none)
noncomputable def J0(K:Frag)(k:Nat):=(some (some (if k=0\/k=7 then .ref (pP (F5 K k))else cV (Bc k) (F5 K k))),if k=0\/k=7 then some (cS (F6 (Ls (Bc k)) (F3 (ob K (pP (F5 K k))))) (Lq (ob K (pP (F5 K k)))))else none)
noncomputable def BF{α:Type}(d:α)(x:Expr)(f:Expr->List Expr->Pos->α):α:=if h:x.ctorIdx=16 then Expr.Call.elim (motive_1:=λ_=>α) x h λg xs _ p=>f g xs p else d
noncomputable def BG{α:Type}(d:α)(x:Expr)(f:Expr->Pos->α):α:=if h:x.ctorIdx=20 then Expr.Attribute.elim (motive_1:=λ_=>α) x h λl _ p=>f l p else d
noncomputable def tH{α:Type}(d:α)(x:Expr)(f:Pos->α):α:=if h:x.ctorIdx=23 then Expr.Name.elim (motive_1:=λ_=>α) x h λ_ p=>f p else d
noncomputable def I9{α:Type}(d:α)(x:Stmt)(f:Expr->Pos->α):α:=if h:x.ctorIdx=24 then Stmt.Expr.elim (motive_2:=λ_=>α) x h f else d
noncomputable def Ja{α:Type}(d:α)(x:Stmt)(f:List Expr->Expr->Pos->α):α:=if h:x.ctorIdx=5 then Stmt.Assign.elim (motive_2:=λ_=>α) x h f else d
noncomputable def J1(s:Stmt):List Pos:=Ja [] s λts v p=>BG [] (ts.headD default) λl q=>tH [] l λr=>tH [] v λt=>[r,q,t,p]
noncomputable def Lu(b:List Stmt):List Pos:=(I9 [] (b.headD default) λv p5=>BF [] v λg xs p4=>BG [] g λl p2=>BF [] l λg _ p1=>tH [] g λp0=>tH [] (xs.headD default) λp3=>[p0,p1,p2,p3,p4,p5])++J1 (b.tail.headD default)++J1 (b.tail.tail.headD default)
noncomputable def Lv(l:List Pos)(i:Nat):Pos:=(l[i]?).getD ⟨0,0,0,0⟩
noncomputable def xC(K:Frag):Addr:=yv (nsIn K mainGlobals (S' EV))
noncomputable def BH(K:Frag):Addr:=yv (findIn K (.ref (xC K)) "__init__")
noncomputable def lm(K:Frag):FuncData:=JP (ob K (BH K))
noncomputable def AW(K:Frag):ClassData:=Lp (ob K (xC K))
noncomputable def xD(K:Frag):Addr:=pP ((AW K).mro.tail.headD .none)
noncomputable def xX(K:Frag):XD:=⟨xC K,xD K,BH K,((lm K).closure.headD (S' [],0)).2,pP (lm K).code,Lv (Lu (JQ (lm K))),(lm K).name,(lm K).qualname,(lm K).params,(lm K).scope,(lm K).defaults,(lm K).kwdefaults,(lm K).doc,(lm K).pyModule,(lm K).annotations,(lm K).closureTuple,(F3 (ob K (pP (lm K).defaults))).headD .none⟩
noncomputable def xs(K:Frag)(i:Nat):Option Value:=((ob K (xC K)).slots.toList[i]?).getD none
noncomputable def J2(K:Frag)(p:Program):=(K.lookup (xC K),K.lookup (BH K),findIn K (.ref (xC K)) "__init__", typeIn K (.ref (BH K)),codeIn K (.ref (xX K).cda) (xX K).qual,
 (λ(S:Setting)(e:Addr)(v:Value)=>peek K S (bindArgs (xX K).fd ⟨[.ref e,v],[]⟩)),((lm K).params.posonlyargs++(lm K).params.args).head?.map (·.arg),
 ["super", "__class__", "self", "what", "at"].map (λx=>(lm K).scope.names.lookup (Str.ofString x)),(lm K).scope.names.all (λq=>!decide (q.2 = .cell))&&decide (xC K≠xD K)&&(((xX K).p 2).endLine==((xX K).p 4).line),
 ((lm K).scope.isCoroutine,(lm K).scope.isGenerator,(lm K).scope.kind),K.lookup (xX K).cda,(p.main.file:Str)==F0 ((F3 (ob K (xX K).cda))[2]?.getD .none),K.lookup (xX K).cc,(clsIn K (xD K)).isSome&&keepIn K (.ref (xC K)),
 [nsIn K mainGlobals "super", nsIn K cStatics "thirdparty.any", takerIn K (xC K) "what", takerIn K (xC K) "at"],(p.main.scope.names.lookup ("super" : Str)).isSome,findIn K (.ref (xC K)) "__setattr__", nsIn K mainGlobals "FontFault")
noncomputable def AX(K:Frag)(i:Nat):Value:=((F3 (ob K (xX K).cda))[i]?).getD .none
noncomputable def J3(K:Frag):=(some (excClassObj (AW K).name (AW K).qualname (xC K) (AW K).ns (AW K).bases (m0 (xD K)) true (AW K).slotNames (AW K).subclasses (AW K).abstract (AW K).collection (ob K (xC K)).dict (xs K 0) (xs K 1) (xs K 2) (xs K 3) (xs K 5) "Exception.__new__"),
 some (⟨(ob K (BH K)).cls,(ob K (BH K)).dict,.func (xX K).fd,(ob K (BH K)).slots⟩ : Obj),some (some (Value.ref (BH K))),some (Value.type "function"),true,
 (λ(S:Setting)(e:Addr)(v:Value)=>some [(("self" : Str),Value.ref e),(("what" : Str),v),(("at" : Str),(xX K).df)]),some ("self" : Str),
 [some NameKind.globalImplicit,some .free,some .local,some .local,some .local],true,(false,false,ScopeKind.function),
 some (⟨(ob K (xX K).cda).cls,(ob K (xX K).cda).dict,.fields (AX K 0::AX K 1::.str (F0 (AX K 2)) (DQ (AX K 2))::(F3 (ob K (xX K).cda)).drop 3).toArray,(ob K (xX K).cda).slots⟩ : Obj),true,
 some (⟨(ob K (xX K).cc).cls,(ob K (xX K).cc).dict,.cell (some (.ref (xD K))),(ob K (xX K).cc).slots⟩ : Obj),true,
 [some (none:Option Value),some none,some none,some none],false,some (some (Value.builtin "object.__setattr__")),some (some (Value.ref (xC K))))
noncomputable def BI(K:Frag)(f:Nat):Bool:=i8 (tG K f).nm (tG K f).scope (bH f).body (tG K f).body
structure gk(K:Frag)(p:Program):Prop where
 fo:tL (JR K) 44=tR (JS K) 44
 bi:tL (I7 K) 44=tR (I8 K) 44
 na:tL (JT K) 44=tR (JU K) 44
 cl:tL (JV K) 3=tR (JW K) 3
 nb:JX K=JY
 gv:tL (JZ K) 8=tR (J0 K) 8
 xk:J2 K p=J3 K
 body:tL (BI K) 44=tR (λ_=>true) 44
 tree:p.given.tree=none
section
variable{K:Frag}{p:Program}{w:World}{B:Heap}
theorem uR:∀{us:List Value}{n:Nat},us.length=n->(List.range n).map (λi=>(us[i]?).getD .none)=us:=λ{us n} h=>List.ext_getElem (by rw[LF,Mk,h]) λi h1 h2=>by
 rw[List.getElem_map,List.getElem_range,LH h2];rfl
theorem F7(X:K.In B)(F:gk K p):Fo (Gk K p w B) q9 where
 fn:=λf hf=>⟨_,_,_,congrArg (·.1) (aZ F.fo f hf)⟩
 code:=λf hf=>congrArg (·.2.1) (aZ F.fo f hf)
 flag:=λf hf=>⟨congrArg (·.2.2.1) (aZ F.fo f hf),congrArg (·.2.2.2.1) (aZ F.fo f hf),congrArg (·.2.2.2.2.1) (aZ F.fo f hf)⟩
 binds:=λf hf us hl s hB M A E Q q=>by
  have h:=congrFun (congrFun (aZ F.bi f hf) ⟨M.prog,M.w.params⟩) λi=>(us[i]?).getD .none;unfold I7 I8 at h;rw[uR hl]at h;exact(Looks.of_peek (M:=M) (X.keeps hB) h).here q
 nm:=λf hf=>eK (congrArg (·.2.2.2.2.2.1) (aZ F.fo f hf)) λh1 h2=>eK (congrArg (·.2.2.2.2.2.2) (aZ F.fo f hf)) λh3 _=>⟨of_decide_eq_true h1,of_decide_eq_true h2,λy hy=>ky (L9.mp h3 y hy)⟩
 free:=λf hf y e=>eK (congrArg (·.2.2.2.2.2.2) (aZ F.fo f hf)) λ_ h=>ff ((ng (L9.mp (show((tG K f).scope.names.all λq=>!decide (q.2 = .free))=true from h) (y,.free) (qt e))).symm.trans (decide_eq_true rfl))
theorem F8(X:K.In B)(F:gk K p)(bf:Bf (Gk K p w B))(hm:∃o,B.get? sysModules=some o):Bg (Gk K p w B) where
 bf:=bf
 inB:=X
 mods:=hm
 cls:=λc hc=>gF (congrArg (·.1) (aZ F.cl c hc)) λh1 h2 h3=>⟨h1,h2,h3,congrArg (·.2.1) (aZ F.cl c hc)⟩
 att:=λc k hk=>(if_pos hk).symm.trans (aZ (f:=λk=>if gp c k=true then findIn K (.ref (uQ K c)) (S' (uU k))else some none) (g:=λ_=>some none) (congrArg (·.2.2.1) (aZ F.cl c (dJ hk).1)) k (dJ hk).2)
 inj:=by
  have key:∀k,k<8->∀l,l<8->uU k=uU l->k=l:=by decide +kernel
  exact λk l hk hl=>key k hk l hl
theorem F9(F:gk K p):Na (Gk K p w B) prog where
 gl:=λf hf h=>(if_pos h).symm.trans (congrArg (·.2.1) (aZ F.na f hf))
 keep:=λf hf=>congrArg (·.1) (aZ F.na f hf)
 mt:=λf hf h3=>by
  have h9:¬bv f=99:=λw=>absurd (show bv f<3 from h3) (by rw[w];decide);refine⟨(if_neg h9).symm.trans (congrArg (·.2.1) (aZ F.na f hf)),(if_neg h9).symm.trans (congrArg (·.2.2.1) (aZ F.na f hf)),λk hk w=>?_⟩;have h:=ng (L9.mp (show((List.range 8).all λk=>!(gp (bv f) k&&decide (uU k=ph f)))=true from congrArg (·.2.2.2) (aZ F.na f hf)) k (List.mem_range.mpr (dJ hk).2));rw[show gp (bv f) k=true from hk,decide_eq_true (show uU k=ph f from mJ w)]at h;exact ff h.symm
 ini:=λc h3=>gF (congrArg (·.2.2.2.2.2.2) (aZ F.cl c h3)) λh1 h2 h=>⟨of_decide_eq_true h,congrArg (·.2.2.2.2.1) (aZ F.cl c h3),congrArg (·.2.2.2.2.2.1) (aZ F.cl c h3),h1,h2⟩
noncomputable def BJ(x:V):Bool:=match x with
 |.int _=>true
 |.str l=>decide (l.length<=aq)
 |_=>false
theorem yx{G:Cx}{X:Av}{h:Heap}:∀(xs:List V)(vs:List Value),xs.all BJ=true->RelL G X h xs (F6 xs vs):=by
 intro xs
 induction xs with
 |nil=>
  intro _ _;exact rfl
 |cons x r ih=>
  intro vs h
  exact eK h λh1 h2=>⟨_,_,rfl,(by
  cases x with
  |int i=>exact⟨_,rfl⟩
  |str l=>exact⟨of_decide_eq_true h1,_,rfl⟩
  |_=>cases h1),ih vs.tail h2⟩
theorem Lw{k:Nat}{i:Int}(X:K.In B)(F:gk K p)(hk:k<8)(e:Bc k = .int i)(h1:¬ (k=0\/k=7)):∃v,nsIn K mainGlobals (S' (zB k))=some (some v)/\Rel (Gk K p w B) (λa=>B.get? a=none) B (Bc k) v:=
 ⟨_,congrArg (·.1) (aZ F.gv k hk),by rw[if_neg h1,e];exact⟨_,rfl⟩⟩
theorem J4{k:Nat}{xs:List V}(X:K.In B)(F:gk K p)(hk:k<8)(e:Bc k = .tup xs)(h1:k=0\/k=7)(hl:xs.length<=aq)(ha:xs.all BJ=true):∃v,nsIn K mainGlobals (S' (zB k))=some (some v)/\Rel (Gk K p w B) (λa=>B.get? a=none) B (Bc k) v:=
 ⟨_,congrArg (·.1) (aZ F.gv k hk),by
  have h:=((if_pos h1).symm.trans (congrArg (·.2) (aZ F.gv k hk))).trans (if_pos h1);have hg:=X _ _ h;rw[if_pos h1,e];rw[e]at hg
  exact⟨hl,_,_,_,rfl,λw=>Option.some_ne_none _ (hg.symm.trans w),hg,yx _ _ ha⟩⟩
theorem Ga(X:K.In B)(F:gk K p):Nb (Gk K p w B) where
 b1:=λop=>(List.map_inj_left (f:=λop=>nsIn K mainGlobals (S' (nB op))) (g:=λ_=>some none)).mp (congrArg (·.1) F.nb) op (show op∈b1s by cases op<;>repeat (first|exact List.Mem.head _|refine List.Mem.tail _ ?_))
 rng:=congrArg (·.2.1) F.nb
 ba:=congrArg (·.2.2) F.nb
 cls:=λc hc=>congrArg (·.2.2.2.1) (aZ F.cl c hc)
 gv:=λk hk=>by
  rcases k with _|_|_|_|_|_|_|_|k
  ·exact J4 X F hk rfl (.inl rfl) (by decide) rfl
  iterate 6 exact Lw X F hk rfl (by decide)
  ·exact J4 X F hk rfl (.inr rfl) (by decide) rfl
  ·exact absurd hk (Nat.not_lt.mpr (Nat.le_add_left 8 k))
theorem Lx{α:Type}{a b c d e a' b' c' d' e':α}(h:[a,b,c,d,e]=[a',b',c',d',e']):a=a'/\b=b'/\c=c'/\d=d'/\e=e':=by cases h;exact⟨rfl,rfl,rfl,rfl,rfl⟩
theorem Ly{α:Type}{a b c d a' b' c' d':α}(h:[a,b,c,d]=[a',b',c',d']):a=a'/\b=b'/\c=c'/\d=d':=by cases h;exact⟨rfl,rfl,rfl,rfl⟩
end
noncomputable section
def jF(K:Frag)(p:Program)(w:World)(B:Heap):Prop:=
 ∀(X:K.In B)(F:gk K p),Xk (Gk K p w B) (xX K)
namespace Kxk_of
def z:=ep (V4 jF)
theorem T:jF z.1 z.2.1 z.2.2.1 z.2.2.2:=by
 intro X F;have h:=F.xk;have h8:=Lx (congrArg (·.2.2.2.2.2.2.2.1) h);have h15:=Ly (congrArg (·.2.2.2.2.2.2.2.2.2.2.2.2.2.2.1) h);have h9:(_&&_&&_)=true:=congrArg (·.2.2.2.2.2.2.2.2.1) h;have h10:=congrArg (·.2.2.2.2.2.2.2.2.2.1) h;have h14:(_&&_)=true:=congrArg (·.2.2.2.2.2.2.2.2.2.2.2.2.2.1) h
 exact{
  cF:=rfl
  cls:=⟨_,_,_,_,_,_,_,_,_,_,_,_,_,_,congrArg (·.1) h⟩
  ini:=congrArg (·.2.2.1) h
  ity:=congrArg (·.2.2.2.1) h
  fn:=⟨_,_,_,congrArg (·.2.1) h⟩
  code:=congrArg (·.2.2.2.2.1) h
  binds:=λe v s hB M A E Q q=>(Looks.of_peek (M:=M) (X.keeps hB) (congrFun (congrFun (congrFun (congrArg (·.2.2.2.2.2.1) h) ⟨M.prog,M.w.params⟩) e) v)).here q
  ar:=Option.map_eq_some_iff.mp (congrArg (·.2.2.2.2.2.2.1) h)
  sc1:=h8.1
  sc2:=h8.2.1
  sc3:=h8.2.2.1
  sc4:=h8.2.2.2.1
  sc5:=h8.2.2.2.2
  sc6:=λx hx e=>ff ((ng (L9.mp (show((lm z.1).scope.names.all λq=>!decide (q.2 = .cell))=true from gF h9 λa _ _=>a) x hx)).symm.trans (decide_eq_true e))
  cd:=of_decide_eq_true (gF h9 λ_ b _=>b)
  ps:=gF h9 λ_ _ c=>c
  fl:=⟨congrArg (·.1) h10,congrArg (·.2.1) h10,congrArg (·.2.2) h10⟩
  cdo:=⟨_,_,_,_,_,_,congrArg (·.2.2.2.2.2.2.2.2.2.2.1) h,rfl,congrArg (·.2.2.2.2.2.2.2.2.2.2.2.1) h⟩
  cell:=⟨_,_,_,congrArg (·.2.2.2.2.2.2.2.2.2.2.2.2.1) h⟩
  dcl:=Option.isSome_iff_exists.mp (eK h14 λa _=>a)
  sup:=h15.1
  top:=congrArg (·.2.2.2.2.2.2.2.2.2.2.2.2.2.2.2.1) h
  opq:=h15.2.1
  sa:=congrArg (·.2.2.2.2.2.2.2.2.2.2.2.2.2.2.2.2.1) h
  tk1:=h15.2.2.1
  tk2:=h15.2.2.2
  glob:=congrArg (·.2.2.2.2.2.2.2.2.2.2.2.2.2.2.2.2.2) h
  keep:=eK h14 λ_ b=>b}
end Kxk_of
end
theorem Gb{K p w B}:jF K p w B:=cN (p:=V4 jF) Kxk_of.T (K,p,w,B)
variable{K:Frag}{p:Program}{w:World}{B:Heap}
theorem AY{q:Program}{loose:List Str}{mean:ExcName->Option Value}{mg mb:Str->Option Value}(X:K.In B)(F:gk K p)(T:Top q loose mean mg mb B)(hi:importsNone q=true):zT (Gk K p w B) (xX K):=by
 have ns:=T.seer hi
 have hm:∃o,B.get? sysModules=some o:=by
  obtain⟨mm,⟨o,es,ep,e,_⟩,_⟩:=ns.mods;exact⟨o,e⟩
 exact⟨F8 X F ⟨T.nolimit,ns,F.tree⟩ hm,⟨⟨mg,T.g⟩,mb,T.b,T.builtins⟩,F9 F,Ga X F,Gb X F,F7 X F,λ_=>rfl,λ_=>rfl,aZ F.body⟩
theorem Gc{h:Heap}{a:Addr}{m:Str->Option Value}{x:Str}{v:Value}(X:K.In h)(N:h.Ns a m)(e:nsIn K a x=some (some v)):m x=some v:=by
 obtain⟨o,es,ep,ho,hd,_,hf⟩:=N;unfold nsIn at e
 cases k:K.lookup a with
 |none=>rw[k]at e;cases e
 |some o1=>
  rw[k]at e;have h2:=X _ _ k;rw[ho]at h2;cases h2;obtain⟨oc,od,dt,sl⟩:=o;cases hd;dsimp only at e;rw[<-hf x]
  cases q:es.toList.find? (·.key.isStr x)with
  |none=>
   rw[q]at e;dsimp only at e
   by_cases w:es.toList.any (·.refKey)=true
   ·rw[if_pos w]at e;cases e
   ·rw[if_neg w]at e;cases e
  |some en=>
   rw[q]at e;cases e;show nsFind es x=some en.val;unfold nsFind findBy;rw[show es.find? (λe=>e.key.isStr x)=some en from(Array.find?_toList ..).symm.trans q]
   rfl
set_option tactic.hygienic true in
theorem uS{R:WRecords}{cl:Str->Option Addr}{P:Params}{ord:List DictEntry->List DictEntry}:∀(xs:List WData)(s:Shared)(r:List Value × Shared),WShape.hasItems R xs .int=true->layAllW R cl P ord xs s=some r->∃ns:List Int,xs=ns.map .int/\∀(G:Cx)(X:Av)(h:Heap),RelL G X h (ns.map V.int) r.1:=by
 intro xs
 induction xs with
 |nil=>
  intro s r _ e;simp only[layAllW,Option.some.injEq]at e;subst e;exact⟨[],rfl,λG X h=>by exact(show _=_ from rfl)⟩
 |cons x xs ih=>
  intro s r hs e;have hs':WShape.has R x .int=true/\WShape.hasItems R xs .int=true:=by simpa[WShape.hasItems]using hs
  obtain⟨i,rfl⟩:=hasW_int hs'.1;simp only[layAllW,layW]at e
  split at e
  ·rename_i r2 e2;cases e;obtain⟨ns,rfl,h2⟩:=ih _ r2 hs'.2 e2;refine⟨i::ns,rfl,λG X h=>?_⟩;simp only[List.map_cons];show ∃v r,_;exact⟨_,_,rfl,(show ∃t,_ from⟨_,rfl⟩),h2 G X h⟩
  ·cases e
theorem DR{ar:Nat->Nat}{G:Cx}(fo:Fo G ar)(L:Addr):Rm 15 (callerA.deeper (aO (G.fd 43) L)):=by
 have fl:=fo.flag 43 (by decide);exact⟨rfl,by show 1+claimMargin+1+3*15+103<recursionLimit;decide +kernel,⟨aO (G.fd 43) L,[],rfl,fl.2.1,fl.1,rfl,rfl⟩,by show 4+3+60*15+60<cLine;decide +kernel,rfl⟩
theorem yy{G:Cx}{X:XD}{ns:List Int}{v:Value}{s:Shared}(b:zT G X)(hB:s.heap=G.B)(hl:ns.length<=1000000)(r:Rel G (λ_=>False) s.heap (.lst (ns.map .int)) v) :
  wpS (Md G) callerA (PySem.call (.ref (G.fd 43).addr) [v]) (λu s'=>u = .bool true/\Same s s'/\∀b o,s.heap.get? b=some o->s'.heap.get? b=some o) (λ_ _=>False) s:=by
 have sr:SR G (λ_=>False) [] [] s.heap:=⟨rfl,λi q o h _=>by simp at h,λi j q r o o' a h=>by simp at h,λa ⟨i,q,o,h,_⟩=>by simp at h,λb o e=>by rw[hB];exact e,λa h=>by
  rcases h with h|⟨i,q,o,h,_⟩
  ·exact h.elim
  ·simp at h⟩
 have st:Stk (λ_=>False) callerA s.heap:=⟨[],rfl,λ_ h=>(by cases h)⟩
 have hno:∀a,(Av.or (λ_=>False) (aj [] [])) a->False:=λa h=>by
  rcases h with h|⟨i,q,o,h,_⟩
  ·exact h
  ·simp at h
 have rt:RTs G (λ_=>False) [] [] s.heap [.lst (ns.map .int)] [v]:=⟨v,[],rfl,aF (Rel.ext0 (M:=λ_=>False) G ⟨λb o e _=>e,λa w=>(hno a w).elim⟩ (λ_ m=>m.elim) r),rfl⟩;have hc:=lQ b.bg b.fo (λf _=>rfl) (sJ b (pt b 7)) (f:=43) (vs:=[.lst (ns.map .int)]) (us:=[v]) (F:=λ_=>False) (A:=callerA) (ρ:=[]) (H:=[]) (s:=s) (by decide) (by show 1+claimMargin+103<recursionLimit;decide +kernel) (λL=>DR b.fo L) sr (λ_ h=>h.elim) st rt;have hl2:(guard (decide ([V.lst (ns.map .int)].length=(bH 43).arity)) (dH (bH 43).keep ([]:Hp).length (bA prog (run prog bH 7) (bH 43).body ([V.lst (ns.map .int)].map some++dW ((bH 43).slots - (bH 43).arity)) []))) = .ok (.bool true) []:=yu (n:=0) ns;rw[hl2]at hc;have hw:=gw (Z:=λ_=>True) (x:=.ok (.bool true) []) trivial hc;refine ag hw (λu s' h=>?_) λ_ _ h=>h;obtain⟨ρ',a,t⟩:=h;refine⟨t,a.same,λb o e=>a.ext.keep b o e λw=>hno b ?_⟩;rcases w with w|w
 ·exact .inr w
 ·exact .inl w
end J.Internal
namespace J.Internal
theorem nZ{M:Model}{A:Around}{t:Sem Value}{Q Q':Value->Shared->Prop}{E':Value->Shared->Prop}{s:Shared}(h:wpS M A t Q (λ_ _=>False) s)(hq:∀v s',Q v s'->Q' v s'):wpS M A t Q' E' s:=ag h hq λ_ _ w=>w.elim
set_option tactic.hygienic true in
theorem AZ{q:Program}{loose:List Str}{XP:(Str->Option Value)->Heap->Prop}{K:Params->Frag}{as:List Addr}{e:∀P,as=(K P).map (·.1)}{d:DefRec}(hn:d.name=S' (ph 43))(hF:∀P,gk (K P) PySem.Challenge.pw_pf0146_01)(hi:importsNone q=true) :
  BE q loose XP (kHook K as e).says PySem.Challenge.rw_pf0146_01.row.toRowW d:=by
 intro w s₀ s₁ mg mb G Y a hmg args vals as' hpre L;have X:=kIn_of Y;have b:=AY (p:=PySem.Challenge.pw_pf0146_01) (w:=w) X (hF w.params) G.T hi;obtain⟨dd,rr,rfl,h1,h2⟩:=hasAllW_cons (e:=.list .int) (es:=[]) (pre_splitW hpre).1;have h2:=hasAllW_nil h2;subst h2;obtain⟨xs,rfl,h3⟩:=hasW_list h1
 have hlen:xs.length<=63:=by
  have h4:WTm.holds [] (.and (.not (.lt (.lit (.int 63)) (.len (.arg 0)))) (.lit (.bool true))) {args:=[.list xs]}=true:=(pre_splitW hpre).2
  by_cases h5:xs.length<=63
  ·exact h5
  ·exfalso;have h6:(63:Int)<xs.length:=by omega
   simp[WTm.holds,WTm.value,less?,Num.less?,h6]at h4
 obtain⟨ord,ho,hlay⟩:=L.laid;simp only[layAllW,layW]at hlay
 split at hlay
 ·rename_i a1 ha1
  split at ha1
  ·rename_i r1 hr1;cases ha1;simp only[Option.some.injEq,Prod.mk.injEq]at hlay;obtain⟨rfl,hs1⟩:=hlay;obtain⟨ns,rfl,hrel⟩:=uS xs _ r1 h3 hr1
   have ha:a=((Gk (K w.params) PySem.Challenge.pw_pf0146_01 w s₁.heap).fd 43).addr:=by
    have e1:nsIn (K w.params) mainGlobals (S' (ph 43))=some (some (.ref ((Gk (K w.params) PySem.Challenge.pw_pf0146_01 w s₁.heap).fd 43).addr)):=b.na.gl 43 (by decide) (by decide);have e2:=Gc X G.T.g e1;rw[hn,e2]at hmg;cases hmg
    rfl
   subst ha
   have hg:s₁.heap.get? r1.2.heap.objs.size=some (bD r1.1 0):=by
    rw[<-hs1];exact Heap.get?_push_size _ rfl
   have hlen2:ns.length<=1000000:=by
    have h6:ns.length<=63:=by simpa using hlen
    omega
   have hc:=yy (ns:=ns) (v:=.ref r1.2.heap.objs.size) (s:=s₁) b rfl hlen2 (by
    show _/\∃a vs n,_
    exact⟨by rw[LF];exact hlen2,_,r1.1,0,rfl,λw=>w,hg,hrel _ _ _⟩)
   refine nZ hc λv s' ⟨hv,hs,hk⟩=>?_;subst hv;obtain⟨h',tk,rfl⟩:=hs.eq;refine⟨.inl ⟨.bool true,.bool true,[],rfl,λ_=>rfl,.bool true,(by first|rfl|kernel_rfl),λ_=>⟨.nil,λ_ h=>(by cases h)⟩⟩,.of_keep λb o e=>hk b o e,rfl,.of_eq L.gens⟩
  ·cases ha1
 ·cases hlay
noncomputable def Lz(K:Frag)(p:Program):=(tL (JR K) 44,tL (I7 K) 44,tL (JT K) 44,tL (JV K) 3,JX K,tL (JZ K) 8,J2 K p,tL (BI K) 44)
noncomputable def LA(K:Frag):=(tR (JS K) 44,tR (I8 K) 44,tR (JU K) 44,tR (JW K) 3,JY,tR (J0 K) 8,J3 K,tR (λ_=>true) 44)
theorem yz{K:Frag}(h:Lz K PySem.Challenge.pw_pf0146_01=LA K):gk K PySem.Challenge.pw_pf0146_01:=
 ⟨congrArg (·.1) h,congrArg (·.2.1) h,congrArg (·.2.2.1) h,congrArg (·.2.2.2.1) h,congrArg (·.2.2.2.2.1) h,congrArg (·.2.2.2.2.2.1) h,congrArg (·.2.2.2.2.2.2.1) h,congrArg (·.2.2.2.2.2.2.2) h,rfl⟩
end J.Internal
set_option Elab.async true
namespace Jq
open J.Internal
namespace hd8
def tw8234358452105218717:=()
def tw4254833419076455720:=()
def tw17847913725418374277:=()
def tw10562772886688959741:=()
def tw11952431114442789466:=()
def tw3467769485373610678:=()
def tw18423436214570464435:=()
def tw1365422442533092466:=()
def tw7504591668501562334:=()
def tw10934408672979715526:=()
def tw2129874027140997167:=()
def tw15163774201470823250:=()
def tw4909149863349238796:=()
def tw18393991076328726073:=()
def tw13896675019409846181:=()
def tw910203132358279314:=()
def tw15536111826132901600:=()
def tw5031496589159812526:=()
def tw8525015976246698333:=()
def tw4992026274757564741:=()
def tw11799611674340692697:=()
def tw16111306185190629645:=()
def tw1125250164141522172:=()
def tw14374389630551249335:=()
def tw1764079418336184020:=()
def tw6509777338665198152:=()
def tw16289268258844536959:=()
def tw4578853467878243771:=()
def tw5308006244528382311:=()
def tw18071749341034322479:=()
def tw15156373199363838370:=()
def tw3596765261442290120:=()
def tw5207450473201512593:=()
def tw888175558153156999:=()
def tw12334082007851825837:=()
def tw9523185230069481235:=()
def tw15164738255036890949:=()
def tw7278035714469795072:=()
def tw3566247343896382086:=()
def tw9025894843298588129:=()
def tw12155282327285344142:=()
def tw5781653233068988580:=()
def tw16603991989351234298:=()
def tw18341748332473160227:=()
def tw9018225377203667114:=()
def tw17312745918332898777:=()
def tw9878887246404987898:=()
def tw15116281908446542867:=()
def tw4437226278085132499:=()
def tw387553642049434005:=()
def tw13599083762800259725:=()
def tw3698779028243016052:=()
def tw14806774351412781757:=()
def tw10116023168507407050:=()
def tw12164576892229270033:=()
def tw8830741394712471362:=()
def tw9039468531792938654:=()
def tw10236517775218552840:=()
def tw2805269250337933329:=()
def tw7812676582755617394:=()
def tw1906991730919993621:=()
def tw15702789349865031392:=()
def tw16184265631799756451:=()
def tw18286468065950967414:=()
def tw17235886984665113684:=()
def tw18063085336195675067:=()
def tw3418009391986427490:=()
def tw9841982607520723776:=()
def tw2913007312720942574:=()
def tw11019659856827549471:=()
def tw8476498144756781083:=()
def tw17534058576377070110:=()
def tw4947120211015852081:=()
def tw8207863426365259860:=()
def tw92594010913944686:=()
def tw4105360311711516149:=()
def tw15880162582418931370:=()
def tw9476144102482931221:=()
def tw17418380647480539515:=()
def tw5658423413458939578:=()
def tw18162743129417821825:=()
def tw1639802131705692291:=()
def tw13280834893051145366:=()
def tw4170015946482914408:=()
def tw18168442356152290857:=()
def tw5532167644079279387:=()
def tw2193398575253015060:=()
def tw2529628077725603007:=()
def tw13754679448077211001:=()
def tw10796394028108559320:=()
def tw1674238589508322628:=()
def tw1044263496450808589:=()
def tw10431664235523886672:=()
def tw3529487748481180966:=()
def tw14822987333164585479:=()
def tw17675317813338097304:=()
def tw3241706457744944256:=()
def tw16760141110787265819:=()
def tw4002861726927876593:=()
def tw10986864569883745720:=()
def tw2697111385001232185:=()
def tw18342029603750854052:=()
def tw16259236146519395648:=()
def tw2642161020996589148:=()
def tw16751441892208953208:=()
def tw5237826270846023490:=()
def tw13133044093049899213:=()
def tw7846171399948669677:=()
def tw11913256085116640737:=()
def tw7202149235969397444:=()
def tw1369603593259165004:=()
def tw7226254448246631642:=()
def tw3685199714456755339:=()
def tw6065131112552756544:=()
def tw4074934631498338594:=()
def tw15250730178724625212:=()
def tw852241386216437102:=()
def tw650747882201840547:=()
def tw12213231883253828466:=()
def tw9648133294839908782:=()
def tw14672600866247096965:=()
def tw10992151050071988697:=()
def tw4157947428652639045:=()
def tw2552117191724848704:=()
def tw3165929539627697222:=()
def tw12137471819657134027:=()
def tw17782384079795173141:=()
def tw1463082110950339196:=()
def tw6390572091666681002:=()
def tw2764787371696389677:=()
def tw17805174918321490517:=()
def tw17597809842178355392:=()
def tw18046715937163807767:=()
def tw1796834958092975556:=()
def tw6268539514898968216:=()
def tw6020798229747383971:=()
def tw14450080609705247639:=()
def tw11144671681045971709:=()
def tw7630713364364379356:=()
def tw486827722519401732:=()
def tw8561455150812890032:=()
def tw1291798149015195654:=()
def tw14253219652062877477:=()
def tw10798356715537930736:=()
def tw9875356269817817562:=()
def tw7494576409006762265:=()
def tw9190197660056442390:=()
def tw13160217568351527553:=()
def tw16185060202507368757:=()
def tw15470015564256466411:=()
def tw318781974719841429:=()
def tw6843973079862404035:=()
def tw5335880878954465110:=()
def tw13647336470317982049:=()
def tw17130812507867864857:=()
def tw12122802690573822391:=()
def tw11862024981151230691:=()
def tw3131394685535403710:=()
def tw13809644391608979200:=()
def tw17517663660904235725:=()
def tw14363469847100325169:=()
def tw2567267294936802746:=()
def tw14959586510037567008:=()
def tw2964825045557589308:=()
def tw15131488623232854718:=()
def tw2334093494766365659:=()
def tw17944879556196677335:=()
def tw4379347577994686326:=()
def tw5225341715084962693:=()
def tw8054509968507296321:=()
def tw6857841684039241238:=()
def tw1492448839119675533:=()
def tw8711795744329037959:=()
def tw11912258547226252759:=()
def tw10159482150696827768:=()
def tw5892846777354335589:=()
def tw11921727785483681748:=()
def tw14127698936582888807:=()
def tw15506551908304013146:=()
def tw9202740720059095272:=()
def tw1266358921853550940:=()
def tw1243022203286243203:=()
def tw13299640764557872766:=()
def tw15326794990662555586:=()
def tw17782098430166647591:=()
def tw14599857743160541569:=()
def tw14025544223764282866:=()
def tw1247790187855647215:=()
def tw6430924762621140753:=()
def tw340078523513689124:=()
def tw16462240829310056574:=()
def tw6572168068290997625:=()
def tw2703112648063662890:=()
def tw6342921659171722756:=()
def tw6189597685994417195:=()
def tw1454764130248742939:=()
def tw7053887130541384036:=()
def tw17507625052397455257:=()
def tw10347405507611485434:=()
def tw9802997346444438863:=()
def tw14337560963114503404:=()
def tw8612582218970856354:=()
def tw14029789411711423582:=()
def tw1759219047983824482:=()
def tw5053124360676093279:=()
def tw7106501490849371907:=()
def tw17853362420719959358:=()
def tw11772701611311913812:=()
def tw6176649039625403240:=()
def tw9504881852318122255:=()
def tw1637699201133895150:=()
def tw2822020026272340702:=()
def tw12282553414219726841:=()
def tw16863910090714938487:=()
def tw2937685248268148097:=()
def tw7697790416926788365:=()
def tw14269979380354123752:=()
def tw13705148514110551651:=()
def tw10235442064446214963:=()
def tw11949874775488904042:=()
def tw12035807835422401937:=()
def tw10319037860949927002:=()
def tw3032929142526038304:=()
def tw9390366840816777044:=()
def tw2204477471965391951:=()
def tw14617027197191695761:=()
def tw855165366477706176:=()
def tw12839192389629316726:=()
def tw18171324194650624841:=()
def tw11940442585926650322:=()
def tw1420342867252484846:=()
def tw17536529705888053844:=()
def tw6699767895299053745:=()
def tw5029571044560562755:=()
def tw17004830963656308257:=()
def tw3526601409989793182:=()
def tw2966298383703546925:=()
def tw3274772541271829732:=()
def tw10272200424227957715:=()
def tw7928458310606349343:=()
def tw43981488330535210:=()
def tw16171882127570280263:=()
def tw1374890085086107590:=()
def tw14682842950013201025:=()
def tw10587255882775580882:=()
def tw1770161947659557836:=()
def tw5252280205368654741:=()
def tw11518953802284769817:=()
def tw10231844102132966675:=()
def tw13482345325497207461:=()
def tw5319539822546737111:=()
def tw18132046258897500811:=()
def tw6768631836246705588:=()
def tw6726384262975451210:=()
def tw11864758919499864076:=()
def tw2140633855039821361:=()
def tw14794274294211685314:=()
def tw11127359726893247299:=()
def tw12719100942256664264:=()
def tw213039939525573450:=()
def tw9283125289082421488:=()
def tw15934285881259069139:=()
def tw13820430797539676579:=()
def tw11470472114593253235:=()
def tw11722058194913098952:=()
def tw2557556540237178417:=()
def tw5545136506030409210:=()
def tw8558844233742210102:=()
def tw9834931511322453013:=()
def tw12815342459738738970:=()
def tw16528609545834857036:=()
def tw7086063855913031265:=()
def tw17014987501900421062:=()
def tw1626028186230329758:=()
def tw13385905888757099945:=()
def tw1648275563098945726:=()
def tw14095059876281649306:=()
def tw15674995571533412135:=()
def tw15241052579970412281:=()
def tw9466110366623660226:=()
def tw14802662197160601951:=()
def tw2128745696254128594:=()
def tw16436578060773868621:=()
def tw10189526580378132872:=()
def tw3529179990191142702:=()
def tw2587715429775773534:=()
def tw2547117475142503206:=()
def tw11852691496469971600:=()
def tw6534972998146904303:=()
def tw5250009433026604263:=()
def tw5297243332690071102:=()
def tw12604716648304369924:=()
def tw8362706001603703294:=()
def tw17447008428771348719:=()
def tw16318646596844944589:=()
def tw6716023298176171130:=()
def tw12848832583399905440:=()
def tw17043672497811655593:=()
def tw8010514316957567310:=()
def tw10717574168656829086:=()
def tw4597420997039905180:=()
def tw11162095978303938678:=()
def tw12603823328374733590:=()
def tw7280715470844716573:=()
def tw14185309770344606026:=()
def tw5760967038301377277:=()
def tw4470534867202607224:=()
def tw11071847182915953284:=()
def tw10259853777342033324:=()
def tw3819257636717747525:=()
def tw13089285478994510803:=()
def tw13943277086703353176:=()
def tw1143659133281037288:=()
def tw1665746910236366042:=()
def tw7936976420059301192:=()
def tw1020970687939238313:=()
def tw17946025200597899644:=()
def tw17887603211992281616:=()
def tw17629449927702008144:=()
def tw11127347829031724540:=()
def tw14701992079926256856:=()
def tw15683431133728356054:=()
def tw13193168759765182375:=()
def tw12460474497031416254:=()
def tw10962072328866044551:=()
def tw4144184436866513000:=()
def tw1406165216075561433:=()
def tw1884377895362817252:=()
def tw15527421405806451699:=()
def tw10898919190974786023:=()
def tw6462621650945039056:=()
def tw16040485628104392903:=()
def tw6526186363537760514:=()
def tw5143661732227157107:=()
def tw2322271409796695764:=()
def tw4821243877770679820:=()
def tw15315012541310334278:=()
def tw66382655682584815:=()
def tw12484029403297347899:=()
def tw2962873812101610644:=()
def tw18198484862103120966:=()
def tw13259485154883439178:=()
def tw3692418894262659697:=()
def tw10948401366940834773:=()
def tw17656596732591705064:=()
def tw13023120316271193911:=()
def tw14164774680629057850:=()
def tw10852835353111791144:=()
def tw15228875429873236136:=()
def tw2496914800809260212:=()
def tw16789535823511896857:=()
def tw17934771343097504087:=()
def tw10567249087473335581:=()
def tw7479610445437050597:=()
def tw1352062347610538984:=()
def tw8707167730421048059:=()
def tw16763046585656027612:=()
def tw17710547041338189477:=()
def tw9862611855755832226:=()
def tw11666070921250347915:=()
def tw16257253449367855013:=()
def tw2580686622532871288:=()
def tw8116456344876081828:=()
def tw15804980268288517573:=()
def tw8777056448912796639:=()
def tw220337003436947169:=()
def tw15300935630819027279:=()
def tw11007238427832953661:=()
def tw577456679405977429:=()
def tw17561524256958528608:=()
def tw11103633212603299732:=()
def tw15145614040284513314:=()
def tw16849528378979776771:=()
def tw7237387533733430460:=()
def tw14299265341364767298:=()
def tw3729335925542051014:=()
def tw1119424175682119316:=()
def tw16652415770706189575:=()
def tw6009642051128214845:=()
def tw8857277924632865058:=()
def tw8867051731567441303:=()
def tw13920999001775257354:=()
def tw15146080664515566664:=()
def tw223312954892059815:=()
def tw13286960410910625720:=()
def tw8214151149034071506:=()
def tw13439369040440083580:=()
def tw4367501312667671453:=()
def tw15112582417596147179:=()
def tw16875094046151119437:=()
def tw7529382366840958607:=()
def tw2060147690224097078:=()
def tw1580836980155118927:=()
def tw1403114965511209276:=()
def tw6013590345986662528:=()
def tw8227532413194672850:=()
def tw17692381543427553651:=()
def tw13624808725361318803:=()
def tw8887172761294677237:=()
def tw9257655029885303753:=()
def tw11662535389735360030:=()
def tw7580248134229884640:=()
def tw13550952286382713792:=()
def tw6961474130790045025:=()
def tw4562460549452911687:=()
def tw1911030804502467674:=()
def tw14700697186612083471:=()
def tw12000260120888059462:=()
def tw5862365361636773652:=()
def tw7831050473156772758:=()
def tw12968049286122864010:=()
def tw16700463321060524281:=()
def tw5419372173680497021:=()
def tw233046187073556682:=()
def tw7240371544842443662:=()
def tw6163432238083934782:=()
def tw9607133963091894139:=()
def tw8297486548115521632:=()
def tw11797216281380780716:=()
def tw12060310177079269015:=()
def tw15653833056296199904:=()
def tw15588070534242757188:=()
def tw2865373543550070136:=()
def tw18361997901493145960:=()
def tw12245516571940696593:=()
def tw1897504092580091684:=()
def tw12254528325403341931:=()
def tw4908181954263634557:=()
def tw6895759297867965499:=()
def tw12513656374133959913:=()
def tw9216213305326370523:=()
def tw2671911611136958010:=()
def tw8841804672966847209:=()
def tw9126150042246944821:=()
def tw11789918300802321420:=()
def tw12876333361149992151:=()
def tw11406513454798482418:=()
def tw17959760408626935774:=()
def tw3126898239132555770:=()
def tw1126586366120415077:=()
def tw16954761750055693981:=()
def tw12887741041902204407:=()
end hd8
set_option maxHeartbeats 0 in
theorem hd8:PySem.Challenge.rw_pf0146_01.Holds:=by
 w_on;o_law;k_head
 case hw=>w_witness2
 case hc=>exact AZ (by decide +kernel) (λP=>yz (by kernel_rfl)) (by decide +kernel)
end Jq
theorem PySem.Challenge.cw_pf0146_01_holds : PySem.Challenge.rw_pf0146_01.Holds :=
 Jq.hd8
