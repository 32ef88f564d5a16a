import PyProof.Rows.All
import Wide.All
import Wide.FinOn
import Open.Line
import OpenK.Peek
import OpenK.KGet
import OpenK.KMake
import OpenK.KCall
import OpenK.KWalk
import KE.KSort
import KE.KDictList
import KE.KDictSum
import KE.KxBytes
import KE.BytesMake
import PySem.Challenge.RW_pq1101_01
set_option maxRecDepth 100000
set_option linter.all false
set_option tactic.hygienic false
set_option Elab.async false
noncomputable section
namespace Mine
noncomputable abbrev aD:= @Nat.le_of_ble_eq_true
noncomputable abbrev au:= @PySem.wpAny_bind
noncomputable abbrev aj:= @congrArg
noncomputable abbrev aX:= @Option.some.inj
noncomputable abbrev aT:= @PySem.wpAny_pure
noncomputable abbrev dw:= @of_decide_eq_true
noncomputable abbrev bJ:= @Exists.elim
noncomputable abbrev gX:= @PySem.Heap.get?_push_of_some
noncomputable abbrev fF:= @Int.natCast_nonneg
noncomputable abbrev gV:= @Array.length_toList
noncomputable abbrev dz:= @PySem.Heap.get?_push_size
noncomputable abbrev aB:= @if_neg
noncomputable abbrev aC:= @if_pos
noncomputable abbrev cF:= @PySem.wpAny_holding
noncomputable abbrev eG:= @List.length_append
noncomputable abbrev bS:= @Nat.le_refl
noncomputable abbrev iw:= @List.getElem?_eq_getElem
noncomputable abbrev cG:= @Nat.le_of_eq
noncomputable abbrev dH:= @Nat.le_antisymm
noncomputable abbrev cV:= @Nat.le_trans
noncomputable abbrev iy:= @List.mem_of_getElem?
noncomputable abbrev dh:= @PySem.Heap.lt_size
noncomputable abbrev fk:= @decide_eq_true
noncomputable abbrev iN:= @Nat.lt_of_lt_of_eq
noncomputable abbrev fm:= @List.map_cons
noncomputable abbrev gM:= @decide_eq_false
noncomputable abbrev jP:= @Array.getElem?_toList
noncomputable abbrev iO:= @List.not_mem_nil
noncomputable abbrev l5:= @Nat.ne_of_beq_eq_false
noncomputable abbrev kC:= @PySem.Heap.get?_none_of_le
noncomputable abbrev eX:= @eq_of_beq
noncomputable abbrev fq:= @PySem.wpAny_mono
theorem kD{a b:Int}(h:b≤a):¬a<b:=Int.not_lt.mpr h
theorem bZ{a b:Bool}(h:(a&&b)=true):a=true∧b=true:=Bool.and_eq_true_iff.mp h
theorem cz.{u}{α:Type u} [BEq α] [LawfulBEq α]{a b:α}(h:(a==b)=true):a=b:=beq_iff_eq.mp h
theorem fG.{u}{α:Type u}{a:α}{l:List α}(h:(a::l).Nodup):a∉l∧l.Nodup:=List.nodup_cons.mp h
theorem eH.{u}{α:Type u}{a b:α}{l:List α}(h:a∈b::l):a=b∨a∈l:=List.mem_cons.mp h
theorem eK.{u,v}{α:Type u}{β:Type v}{f:α→β}{l:List α}{b:β}(h:b∈l.map f):∃a,a∈l∧f a=b:=List.mem_map.mp h
theorem iP.{u}{α:Type u}{p:α→Bool}{l:List α}(h:l.all p=true):∀x,x∈l→p x=true:=List.all_eq_true.mp h
theorem gh{m n:Nat}(h:m≤n):(m:Int)≤n:=Int.ofNat_le.mpr h
theorem iQ.{u}{α:Type u} [BEq α] [LawfulBEq α]{a b:α}(h:a≠b):(a==b)=false:=beq_eq_false_iff_ne.mpr h
theorem eY.{u}{α:Type u}{l:List α}{i:Nat}{a:α}(h:l[i]? =some a):∃h:i<l.length,l[i]=a:=List.getElem?_eq_some_iff.mp h
theorem lF{a0 a1 a2:Bool}(h:((a0&&a1)&&a2)=true):a0=true:=(Bool.and_eq_true_iff.mp ((Bool.and_eq_true_iff.mp h).1)).1
theorem z5{a0 a1 a2 a3:Bool}(h:(((a0&&a1)&&a2)&&a3)=true):a0=true:=lF (Bool.and_eq_true_iff.mp h).1
theorem Cx{a0 a1 a2 a3 a4:Bool}(h:((((a0&&a1)&&a2)&&a3)&&a4)=true):a0=true:=z5 (Bool.and_eq_true_iff.mp h).1
theorem KL{a0 a1 a2 a3 a4 a5:Bool}(h:(((((a0&&a1)&&a2)&&a3)&&a4)&&a5)=true):a0=true:=Cx (Bool.and_eq_true_iff.mp h).1
theorem Nn{a0 a1 a2 a3 a4 a5 a6:Bool}(h:((((((a0&&a1)&&a2)&&a3)&&a4)&&a5)&&a6)=true):a0=true:=KL (Bool.and_eq_true_iff.mp h).1
theorem Np{a0 a1 a2 a3 a4 a5 a6 a7:Bool}(h:(((((((a0&&a1)&&a2)&&a3)&&a4)&&a5)&&a6)&&a7)=true):a0=true:=Nn (Bool.and_eq_true_iff.mp h).1
theorem KN{a0 a1 a2 a3 a4 a5 a6 a7 a8:Bool}(h:((((((((a0&&a1)&&a2)&&a3)&&a4)&&a5)&&a6)&&a7)&&a8)=true):a0=true:=Np (Bool.and_eq_true_iff.mp h).1
theorem z6{a0 a1 a2 a3 a4 a5 a6 a7 a8 a9:Bool}(h:(((((((((a0&&a1)&&a2)&&a3)&&a4)&&a5)&&a6)&&a7)&&a8)&&a9)=true):a0=true:=KN (Bool.and_eq_true_iff.mp h).1
theorem gz{a0 a1 a2:Bool}(h:((a0&&a1)&&a2)=true):a1=true:=(Bool.and_eq_true_iff.mp ((Bool.and_eq_true_iff.mp h).1)).2
theorem nO{a0 a1 a2 a3:Bool}(h:(((a0&&a1)&&a2)&&a3)=true):a1=true:=gz (Bool.and_eq_true_iff.mp h).1
theorem sd{a0 a1 a2 a3 a4:Bool}(h:((((a0&&a1)&&a2)&&a3)&&a4)=true):a1=true:=nO (Bool.and_eq_true_iff.mp h).1
theorem z7{a0 a1 a2 a3 a4 a5:Bool}(h:(((((a0&&a1)&&a2)&&a3)&&a4)&&a5)=true):a1=true:=sd (Bool.and_eq_true_iff.mp h).1
theorem Cy{a0 a1 a2 a3 a4 a5 a6:Bool}(h:((((((a0&&a1)&&a2)&&a3)&&a4)&&a5)&&a6)=true):a1=true:=z7 (Bool.and_eq_true_iff.mp h).1
theorem Cz{a0 a1 a2 a3 a4 a5 a6 a7:Bool}(h:(((((((a0&&a1)&&a2)&&a3)&&a4)&&a5)&&a6)&&a7)=true):a1=true:=Cy (Bool.and_eq_true_iff.mp h).1
theorem CB{a0 a1 a2 a3 a4 a5 a6 a7 a8:Bool}(h:((((((((a0&&a1)&&a2)&&a3)&&a4)&&a5)&&a6)&&a7)&&a8)=true):a1=true:=Cz (Bool.and_eq_true_iff.mp h).1
theorem lG{a0 a1 a2 a3 a4 a5 a6 a7 a8 a9:Bool}(h:(((((((((a0&&a1)&&a2)&&a3)&&a4)&&a5)&&a6)&&a7)&&a8)&&a9)=true):a1=true:=CB (Bool.and_eq_true_iff.mp h).1
inductive V where
 |none
 |bool (b:Bool)
 |int (i:Int)
 |str (n:Nat)
 |bytes (l:List Nat)
 |aM (l:List Nat)
 |tup (l:List V)
 |lst (l:List V)
 |rJ (n:Int)
 |fn (f:Nat)
 |cl (c:Nat)
 |loc (l:Nat)
 deriving Inhabited
mutual
noncomputable def V.beq:V→V→Bool
 | .none,.none=>true
 | .bool a,.bool b=>a==b
 | .int a,.int b=>a==b
 | .str a,.str b=>a==b
 | .bytes a,.bytes b=>a==b
 | .aM a,.aM b=>a==b
 | .tup a,.tup b=>V.Ed a b
 | .lst a,.lst b=>V.Ed a b
 | .rJ a,.rJ b=>a==b
 | .fn a,.fn b=>a==b
 | .cl a,.cl b=>a==b
 | .loc a,.loc b=>a==b
 |_,_=>false
noncomputable def V.Ed:List V→List V→Bool
 | [],[]=>true
 |a::r,b::q=>V.beq a b&&V.Ed r q
 |_,_=>false
end
theorem nB{C:Prop}(h:false=true):C:=nomatch h
mutual
theorem V.beq_eq:∀a b:V,V.beq a b=true→a=b
 | .none,b,h=>by cases b<;>first|rfl|exact nB h
 | .bool a,b,h=>by cases b<;>first|exact aj V.bool (eX h)|exact nB h
 | .int a,b,h=>by cases b<;>first|exact aj V.int (eX h)|exact nB h
 | .str a,b,h=>by cases b<;>first|exact aj V.str (eX h)|exact nB h
 | .bytes a,b,h=>by cases b<;>first|exact aj V.bytes (eX h)|exact nB h
 | .aM a,b,h=>by cases b<;>first|exact aj V.aM (eX h)|exact nB h
 | .tup a,b,h=>by cases b<;>first|exact aj V.tup (V.wu a _ h)|exact nB h
 | .lst a,b,h=>by cases b<;>first|exact aj V.lst (V.wu a _ h)|exact nB h
 | .rJ a,b,h=>by cases b<;>first|exact aj V.rJ (eX h)|exact nB h
 | .fn a,b,h=>by cases b<;>first|exact aj V.fn (eX h)|exact nB h
 | .cl a,b,h=>by cases b<;>first|exact aj V.cl (eX h)|exact nB h
 | .loc a,b,h=>by cases b<;>first|exact aj V.loc (eX h)|exact nB h
theorem V.wu:∀a b:List V,V.Ed a b=true→a=b
 | [],b,h=>by cases b<;>first|rfl|exact nB h
 |x::r,b,h=>by
  cases b with
  |nil=>exact nB h
  |cons y q=>exact congr (aj List.cons (V.beq_eq x y (bZ h).1)) (V.wu r q (bZ h).2)
end
mutual
theorem V.BE:∀a:V,V.beq a a=true
 | .none=>rfl
 | .bool a=>beq_self_eq_true a
 | .int a=>beq_self_eq_true a
 | .str a=>beq_self_eq_true a
 | .bytes a=>beq_self_eq_true a
 | .aM a=>beq_self_eq_true a
 | .tup a=>V.se a
 | .lst a=>V.se a
 | .rJ a=>beq_self_eq_true a
 | .fn a=>beq_self_eq_true a
 | .cl a=>beq_self_eq_true a
 | .loc a=>beq_self_eq_true a
theorem V.se:∀a:List V,V.Ed a a=true
 | []=>rfl
 |x::r=>Bool.and_eq_true_iff.mpr ⟨V.BE x,V.se r⟩
end
noncomputable instance:DecidableEq V:=λa b=>if h:V.beq a b=true then isTrue (V.beq_eq a b h) else isFalse λe=>h (e▸V.BE a)
inductive O where
 |list (vs:List V)
 |dict (k:Nat) (es:List (V × V))
 |inst (c:Nat) (fs:List (Nat × V))
 deriving Inhabited
theorem fY{α:Type}{r:α}{G:Prop}(h:none=some r):G:=nomatch h
section
variable {α:Type} {r:α} {G:Prop}
theorem z8{o:Option O}{f:Nat→List (Nat × V)→Option α}(h:(match o with|some (.inst c fs)=>f c fs|_=>none)=some r)(k:∀c fs,o=some (.inst c fs)→f c fs=some r→G):G:=by
 rcases o with _|(_|_|_)<;>first|exact k _ _ rfl h|exact fY h
end
noncomputable abbrev aa:=List O
noncomputable abbrev Env:=List (Option V)
inductive Op where
 |add|sub|mul|fdiv|mod|pow|shl|shr|band|bor
 deriving DecidableEq
inductive Cm where
 |eq|ne|lt|le|gt|ge|is|qT|isin|sf
 deriving DecidableEq
inductive Bi where
 |len|range|bytes|bytearray|list|sorted
 deriving DecidableEq
inductive ME where
 |lit (v:V)
 |var (i:Nat)
 |glob (n:Nat) (v:V)
 |attr (e:ME) (n:Nat)
 |item (e i:ME)
 |slice (e lo hi:ME)
 |lH (e lo:ME)
 |j3 (e hi:ME)
 |call (f:ME) (args:List ME)
 |bH (b:Bi) (n:Nat) (arg:ME)
 |uI (e k:ME)
 |append (e x:ME)
 |bin (op:Op) (a b:ME)
 |neg (a:ME)
 |not (a:ME)
 |and (es:List ME)
 |or (es:List ME)
 |cmp (a:ME) (op:Cm) (b:ME)
 |sj (a:ME) (o1:Cm) (b:ME) (o2:Cm) (c:ME)
 |ite (t a b:ME)
 |tup (es:List ME)
 |lst (es:List ME)
 |cell (es:List ME)
 |dict (es:List ME)
 |nX (e:ME) (x:Nat) (it:ME)
 |o4 (it:ME)
 |never
inductive MS where
 |assign (x:Nat) (e:ME)
 |jQ (x d k:Nat) (it:ME)
 |jR (x d k:Nat) (it:ME)
 |sq (x b n g:Nat)
 |setattr (o:ME) (n:Nat) (e:ME)
 |aS (o k e:ME)
 |unpack (xs:List Nat) (e:ME)
 |aug (x:Nat) (op:Op) (e:ME)
 |expr (e:ME)
 |ret (e:ME)
 |ite (t:ME) (a b:List MS)
 |while (t:ME) (b:List MS)
 |for (x:Nat) (it:ME) (b:List MS)
 |wz (xs:List Nat) (it:ME) (b:List MS)
 |brk
 |cont
 |jm (o k:ME)
 |never
structure FD where
 args:List Nat
 jT:List V
 locals:List Nat
 body:List MS
noncomputable def HE:V→Bool
 | .int _=>true
 |_=>false
noncomputable def wA(l:List V):Bool:=l.all HE
noncomputable def HF:V→Bool
 | .tup l=>wA l
 |_=>false
noncomputable def Ub:List V→Nat
 | [a,b]=>bif HE a&&HF b then 3 else 0
 |_=>0
noncomputable def kk:V→Nat
 | .int _=>1
 | .str _=>2
 | .tup l=>Ub l
 |_=>0
noncomputable def aQ:List (V × V)→V→Option V
 | [],_=>none
 |(a,v)::r,k=>if a=k then some v else aQ r k
noncomputable def Ef(b:Bool)(f:V→Bool):V→Bool
 | .none=>true
 | .int _=>true
 | .str _=>true
 | .tup l=>b&&l.all f
 | .lst l=>b&&l.all f
 |_=>false
noncomputable def bl:Nat→V→Bool
 |0=>Ef false λ_=>false
 |n+1=>Ef true (bl n)
noncomputable def gY(i:Int):Bool:=decide (-(2 ^ 200)<i)&&decide (i<2 ^ 200)
noncomputable def CC(i:Int):Bool:=decide (0≤i)&&decide (i≤200)
noncomputable def binI(op:Op)(a b:Int):Option Int:=
 match op with
 | .add=>some (a+b)
 | .sub=>some (a-b)
 | .mul=>if gY a&&gY b then some (a*b) else none
 | .fdiv=>if b≠0∧gY b=true then some (a.fdiv b) else none
 | .mod=>if b≠0 then some (a.fmod b) else none
 | .pow=>if gY a&&CC b then some (a ^ b.toNat) else none
 | .shl=>if gY a&&CC b then some (a*2 ^ b.toNat) else none
 | .shr=>if CC b then some (a.fdiv (2 ^ b.toNat)) else none
 | .band=>if 0≤a∧0≤b then some ((a.toNat &&& b.toNat:Nat):Int) else none
 | .bor=>if 0≤a∧0≤b then some ((a.toNat ||| b.toNat:Nat):Int) else none
noncomputable def Nq(l:List V)(i:Int):Option Bool:=if l.all HE then some (decide (V.int i∈l)) else none
noncomputable def su(a b:List (V × V)):Bool:=a.length==b.length&&a.all λe=>match aQ b e.1 with|some v=>decide (e.2=v)|none=>false
noncomputable def wB:V→Bool
 | .none=>true
 |_=>false
noncomputable def KO(a b:V):Option Bool:=if bl 6 a&&bl 6 b then some (decide (a=b)) else none
noncomputable def KP(a b:V):Option Bool:=if bl 6 a&&bl 6 b then some (!decide (a=b)) else none
noncomputable def Eg(o p:Option O):Option Bool:=match o with
 |some (.dict k d)=>match p with
  |some (.dict k' e)=>if(k=0∨k=3)∧(k'=0∨k'=3)∧(d.all λx=>bl 2 x.2)∧(e.all λx=>bl 2 x.2) then some (su d e) else none
  |_=>none
 |_=>none
noncomputable def Eh(x:List V)(o:Option O):Option Bool:=match o with
 |some (.list vs)=>if x.all (bl 5)&&vs.all (bl 5) then some (decide (x=vs)) else none
 |_=>none
noncomputable def Nr(a:V)(o:Option O):Option Bool:=match a with
 | .lst x=>Eh x o
 |_=>none
noncomputable def cX(op:Cm)(a b:V)(σ:aa):Option Bool:=
 match op with
 | .eq=>VI a b
 | .ne=>match b with
  | .bool y=>match a with
   | .bool x=>some (!decide (x=y))
   |_=>none
  |b=>KP a b
 | .lt=>match a,b with| .int x,.int y=>some (decide (x<y))|_,_=>none
 | .le=>match a,b with| .int x,.int y=>some (decide (x≤y))|_,_=>none
 | .gt=>match a,b with| .int x,.int y=>some (decide (y<x))|_,_=>none
 | .ge=>match a,b with| .int x,.int y=>some (decide (y≤x))|_,_=>none
 | .is=>if wB b then some (wB a) else none
 | .qT=>if wB b then some (!wB a) else none
 | .isin=>Q2 a b
 | .sf=>(Q2 a b).map (!·)
where
 VI (a b:V):Option Bool:=match b with
  | .loc y=>match a with
   | .loc x=>Eg σ[x]? σ[y]?
   |a=>Nr a σ[y]?
  | .bool y=>match a with
   | .bool x=>some (decide (x=y))
   |_=>none
  |b=>KO a b
 Q2 (a b:V):Option Bool:=match b with
  | .tup l=>match a with| .int i=>Nq l i|_=>none
  | .lst l=>match a with| .int i=>Nq l i|_=>none
  | .loc y=>match σ[y]? with
   |some (.dict k d)=>if kk a=0∨kk a=3 then none else if k=0∨k=kk a then some (aQ d a).isSome else none
   |_=>none
  |_=>none
noncomputable def mu:List V→Option (List Nat)
 | []=>some []
 | .int i::r=>if 0≤i∧i<256 then(mu r).map (i.toNat:: ·) else none
 |_=>none
noncomputable def mw:List V→Option (List Int)
 | []=>some []
 | .int i::r=>(mw r).map (i:: ·)
 |_=>none
noncomputable def insI(x:Int):List Int→List Int
 | []=>[x]
 |y::r=>if x≤y then x::y::r else y::insI x r
noncomputable def sortI:List Int→List Int
 | []=>[]
 |x::r=>insI x (sortI r)
noncomputable def KQ(o:Option O):Option V:=match o with
 |some (.list l)=>if l.length≤100000 then some (.int l.length) else none
 |some (.dict k l)=>if k≤1∧l.length≤100000 then some (.int l.length) else none
 |_=>none
noncomputable def JK(o:Option O):Option V:=match o with
 |some (.dict k es)=>if k=0∧es.length=0 then some (.lst []) else none
 |_=>none
noncomputable def JL(o:Option O):Option V:=match o with
 |some (.dict k es)=>if k≤1∧es.length<64 then(mw (es.map (·.1))).map λl=> .lst ((sortI l).map .int) else none
 |_=>none
noncomputable def dJ(b:Bi)(v:V)(σ:aa):Option V:=
 match b with
 | .len=>match v with
  | .aM l=>if l.length≤100000 then some (.int l.length) else none
  | .lst l=>if l.length≤100000 then some (.int l.length) else none
  | .loc x=>KQ σ[x]?
  |_=>none
 | .range=>match v with| .int i=>if gY i then some (.rJ i) else none|_=>none
 | .bytes=>match v with| .lst l=>if l.length≤100000 then(mu l).map .bytes else none|_=>none
 | .bytearray=>none
 | .list=>match v with
  | .loc x=>JK σ[x]?
  |_=>none
 | .sorted=>match v with
  | .loc x=>JL σ[x]?
  |_=>none
noncomputable def uX(ρ:Env):ME→Option Int
 | .lit (.int i)=>some i
 | .var k=>match ρ[k]? with|some (some (.int i))=>some i|_=>none
 | .bin op a b=>(uX ρ a).bind λx=>(uX ρ b).bind λy=>binI op x y
 |_=>none
noncomputable def Ei(ρ:Env)(e:ME)(x:Nat):List V→Option (List Int)
 | []=>some []
 |u::r=>(uX (ρ.set x (some u)) e).bind λi=>(Ei ρ e x r).map (i:: ·)
noncomputable def b0:List MS:=
 [.assign 1 (.lit (.int 0)),.for 2 (.var 0) [.assign 1 (.bin .bor (.bin .shl (.var 1) (.lit (.int 8))) (.var 2))],.ret (.var 1)]
noncomputable def f0:FD:=⟨[148],[],[148,26,149],b0⟩
noncomputable def b1:List MS:=
 [.ite (.or [(.cmp (.bH .len 0 (.var 0)) .lt (.lit (.int 20))),(.cmp (.bin .shr (.item (.var 0) (.lit (.int 0))) (.lit (.int 4))) .ne (.lit (.int 4)))]) [.ret (.lit .none)] [],.assign 1 (.bin .mul (.bin .band (.item (.var 0) (.lit (.int 0))) (.lit (.int 15))) (.lit (.int 4))),.ite (.or [(.cmp (.var 1) .lt (.lit (.int 20))),(.cmp (.var 1) .gt (.bH .len 0 (.var 0)))]) [.never] [],.assign 2 (.call (.glob 1 (.fn 0)) [(.slice (.var 0) (.lit (.int 6)) (.lit (.int 8)))]),.ret (.tup [(.item (.var 0) (.lit (.int 9))),(.var 1),(.bin .mul (.bin .band (.var 2) (.lit (.int 8191))) (.lit (.int 8))),(.cmp (.bin .band (.var 2) (.lit (.int 8192))) .ne (.lit (.int 0)))])]
noncomputable def f1:FD:=⟨[13],[],[13,18,150],b1⟩
noncomputable def b2:List MS:=
 [.ite (.cmp (.var 0) .isin (.tup [(.lit (.int 0)),(.lit (.int 43)),(.lit (.int 60))])) [.never] [],.ite (.cmp (.var 0) .eq (.lit (.int 51))) [.never] [],.ite (.cmp (.var 0) .eq (.lit (.int 44))) [.never] [],.ret (.lit (.int 0))]
noncomputable def f2:FD:=⟨[16,151],[],[16,151],b2⟩
noncomputable def b3:List MS:=
 [.ite (.cmp (.call (.glob 2 (.fn 2)) [(.var 2),(.lit (.int 0))]) .eq (.lit (.int 0))) [.ret (.lit (.int 0))] [],.never,.never,.never,.never]
noncomputable def f3:FD:=⟨[148,152,16,153],[],[148,152,16,153,154],b3⟩
noncomputable def b4:List MS:=
 [.never]
noncomputable def f4:FD:=⟨[148,152],[],[148,152],b4⟩
noncomputable def b5:List MS:=
 [.ite (.or [(.cmp (.bH .len 0 (.var 0)) .lt (.lit (.int 40))),(.cmp (.bin .shr (.item (.var 0) (.lit (.int 0))) (.lit (.int 4))) .ne (.lit (.int 6)))]) [.ret (.lit .none)] [],.assign 1 (.item (.var 0) (.lit (.int 6))),.assign 2 (.lit (.int 40)),.assign 3 (.lit (.int 0)),.assign 4 (.lit (.bool false)),.while (.cmp (.var 3) .eq (.lit (.int 0))) [.assign 5 (.call (.glob 3 (.fn 3)) [(.var 0),(.var 2),(.var 1),(.bH .len 0 (.var 0))]),.ite (.or [(.cmp (.var 5) .lt (.lit (.int 0))),(.and [(.cmp (.var 1) .eq (.lit (.int 0))),(.cmp (.var 2) .gt (.lit (.int 40)))])]) [.never] [],.ite (.cmp (.var 5) .eq (.lit (.int 0))) [.brk] [],.never,.never,.never],.ret (.tup [(.var 1),(.var 2),(.var 3),(.var 4)])]
noncomputable def f5:FD:=⟨[13],[],[13,16,152,19,155,154],b5⟩
noncomputable def b6:List MS:=
 [.assign 0 (.dict []),.for 1 (.tup [(.lit (.str 4)),(.lit (.str 5)),(.lit (.str 6)),(.lit (.str 7)),(.lit (.str 8)),(.lit (.str 9)),(.lit (.str 10))]) [.aS (.var 0) (.var 1) (.lit (.int 0))],.aS (.var 0) (.lit (.str 11)) (.lit (.int 1)),.aS (.var 0) (.lit (.str 12)) (.lit (.int 1)),.ret (.var 0)]
noncomputable def f6:FD:=⟨[],[],[156,157],b6⟩
noncomputable def b7:List MS:=
 [.setattr (.var 0) 13 (.bH .bytearray 14 (.var 1)),.setattr (.var 0) 15 (.bH .bytearray 14 (.var 3)),.setattr (.var 0) 16 (.var 2),.setattr (.var 0) 17 (.neg (.lit (.int 1))),.setattr (.var 0) 18 (.neg (.lit (.int 1))),.setattr (.var 0) 19 (.lit (.int 0)),.setattr (.var 0) 20 (.call (.glob 21 (.fn 6)) [])]
noncomputable def f7:FD:=⟨[158,13,16,15],[],[158,13,16,15],b7⟩
noncomputable def b8:List MS:=
 [.setattr (.var 0) 17 (.neg (.lit (.int 1))),.setattr (.var 0) 18 (.neg (.lit (.int 1))),.setattr (.var 0) 19 (.lit (.int 0)),.assign 1 (.lit .none),.ite (.cmp (.attr (.var 0) 16) .eq (.lit (.int 2048))) [.assign 1 (.call (.glob 22 (.fn 1)) [(.attr (.var 0) 13)])] [.ite (.cmp (.attr (.var 0) 16) .eq (.lit (.int 34525))) [.assign 1 (.call (.glob 23 (.fn 5)) [(.attr (.var 0) 13)])] []],.ite (.cmp (.var 1) .is (.lit .none)) [.never] [],.setattr (.var 0) 17 (.item (.var 1) (.lit (.int 0))),.setattr (.var 0) 19 (.item (.var 1) (.lit (.int 2))),.ite (.and [(.cmp (.item (.var 1) (.lit (.int 2))) .eq (.lit (.int 0))),(.cmp (.item (.var 1) (.lit (.int 1))) .le (.bH .len 0 (.attr (.var 0) 13)))]) [.setattr (.var 0) 18 (.item (.var 1) (.lit (.int 1)))] []]
noncomputable def f8:FD:=⟨[67],[],[67,159],b8⟩
noncomputable def b9:List MS:=
 [.assign 3 (.call (.glob 24 (.cl 7)) [(.var 0),(.var 1),(.var 2)]),.expr (.call (.glob 25 (.fn 8)) [(.var 3)]),.ret (.var 3)]
noncomputable def f9:FD:=⟨[148,16,15],[(.int 2048),(.bytes [])],[148,16,15,67],b9⟩
noncomputable def VJ:List MS:=
 [.ite (.cmp (.attr (.var 0) 16) .eq (.lit (.int 2048))) [.ret (.lit (.int 2))] [],.ite (.cmp (.attr (.var 0) 16) .eq (.lit (.int 34525))) [.ret (.lit (.int 10))] [],.never,.never]
noncomputable def Q3:FD:=⟨[67],[],[67],VJ⟩
noncomputable def VK:List MS:=
 [.never,.never,.never,.never,.never]
noncomputable def VL:FD:=⟨[67,160],[],[67,160],VK⟩
noncomputable def VM:List MS:=
 [.never,.never,.never,.never,.never]
noncomputable def VN:FD:=⟨[67,160,152,161],[],[67,160,152,161,159,75],VM⟩
noncomputable def VO:List MS:=
 [.never,.never,.never,.never]
noncomputable def VP:FD:=⟨[67,162,163],[],[67,162,163,148],VO⟩
noncomputable def VQ:List MS:=
 [.never]
noncomputable def VS:FD:=⟨[67],[],[67],VQ⟩
noncomputable def VT:List MS:=
 [.ret (.ite (.cmp (.var 0) .eq (.lit (.int 2))) (.tup [(.lit (.int 3)),(.lit (.int 4)),(.lit (.int 5)),(.lit (.int 11)),(.lit (.int 12))]) (.tup [(.lit (.int 1)),(.lit (.int 2)),(.lit (.int 3)),(.lit (.int 4))]))]
noncomputable def Q4:FD:=⟨[164],[],[164],VT⟩
noncomputable def VU:List MS:=
 [.setattr (.var 0) 26 (.var 1),.setattr (.var 0) 27 (.var 2),.setattr (.var 0) 28 (.var 3),.setattr (.var 0) 29 (.var 4),.setattr (.var 0) 30 (.lit (.int 0)),.setattr (.var 0) 31 (.lit (.int 0)),.setattr (.var 0) 4 (.lit (.int 0)),.setattr (.var 0) 32 (.lit (.int 0)),.setattr (.var 0) 33 (.lit (.int 0)),.setattr (.var 0) 34 (.lit .none),.setattr (.var 0) 35 (.lit (.int 0))]
noncomputable def Uc:FD:=⟨[158,26,27,28,29],[],[158,26,27,28,29],VU⟩
noncomputable def VV:List MS:=
 [.setattr (.var 0) 36 (.var 1),.setattr (.var 0) 37 (.var 2),.setattr (.var 0) 38 (.var 3),.setattr (.var 0) 39 (.dict []),.setattr (.var 0) 40 (.dict []),.setattr (.var 0) 41 (.lit (.int 0)),.setattr (.var 0) 42 (.dict []),.setattr (.var 0) 43 (.lst []),.setattr (.var 0) 44 (.dict []),.setattr (.var 0) 45 (.lit (.bool true))]
noncomputable def VW:FD:=⟨[158,36,37,38],[(.int 64),(.int 0),(.int 128)],[158,36,37,38],VV⟩
noncomputable def VX:List MS:=
 [.ret (.or [(.and [(.cmp (.var 0) .eq (.lit (.int 2))),(.cmp (.var 1) .eq (.lit (.int 1)))]),(.and [(.cmp (.var 0) .eq (.lit (.int 10))),(.cmp (.var 1) .eq (.lit (.int 58)))])])]
noncomputable def M8:FD:=⟨[164,165],[],[164,165],VX⟩
noncomputable def VY:List MS:=
 [.ret (.cmp (.var 1) .isin (.call (.glob 46 (.fn 15)) [(.var 0)]))]
noncomputable def Q5:FD:=⟨[164,16],[],[164,16],VY⟩
noncomputable def VZ:List MS:=
 [.assign 2 (.ite (.cmp (.var 0) .eq (.lit (.int 2))) (.tup [(.tup [(.lit (.int 8)),(.lit (.int 0))]),(.tup [(.lit (.int 13)),(.lit (.int 14))]),(.tup [(.lit (.int 15)),(.lit (.int 16))]),(.tup [(.lit (.int 17)),(.lit (.int 18))])]) (.tup [(.tup [(.lit (.int 128)),(.lit (.int 129))])])),.wz [3,4] (.var 2) [.ite (.cmp (.var 1) .eq (.var 3)) [.ret (.var 4)] [],.ite (.cmp (.var 1) .eq (.var 4)) [.ret (.var 3)] []],.ret (.neg (.lit (.int 1)))]
noncomputable def Nt:FD:=⟨[164,16],[],[164,16,166,167,168],VZ⟩
noncomputable def V3:List MS:=
 [.ite (.or [(.cmp (.var 2) .eq (.lit (.int 6))),(.cmp (.var 2) .eq (.lit (.int 17)))]) [.ite (.cmp (.bin .add (.var 3) (.lit (.int 4))) .gt (.bH .len 0 (.var 0))) [.ret (.lit .none)] [],.ret (.tup [(.call (.glob 1 (.fn 0)) [(.slice (.var 0) (.var 3) (.bin .add (.var 3) (.lit (.int 2))))]),(.call (.glob 1 (.fn 0)) [(.slice (.var 0) (.bin .add (.var 3) (.lit (.int 2))) (.bin .add (.var 3) (.lit (.int 4))))])])] [],.ite (.not (.call (.glob 47 (.fn 18)) [(.var 1),(.var 2)])) [.ret (.tup [(.lit (.int 0)),(.lit (.int 0))])] [],.ite (.cmp (.bin .add (.var 3) (.lit (.int 8))) .gt (.bH .len 0 (.var 0))) [.ret (.lit .none)] [],.assign 4 (.item (.var 0) (.var 3)),.assign 5 (.lit (.int 0)),.ite (.cmp (.call (.glob 48 (.fn 20)) [(.var 1),(.var 4)]) .ge (.lit (.int 0))) [.assign 5 (.call (.glob 1 (.fn 0)) [(.slice (.var 0) (.bin .add (.var 3) (.lit (.int 4))) (.bin .add (.var 3) (.lit (.int 6))))])] [],.ret (.tup [(.var 5),(.bin .add (.bin .mul (.var 4) (.lit (.int 256))) (.item (.var 0) (.bin .add (.var 3) (.lit (.int 1)))))])]
noncomputable def JM:FD:=⟨[148,164,165,18],[],[148,164,165,18,16,169],V3⟩
noncomputable def V4:List MS:=
 [.assign 4 (.call (.glob 49 (.fn 21)) [(.var 0),(.var 1),(.var 2),(.var 3)]),.ite (.cmp (.var 4) .is (.lit .none)) [.ret (.lit .none)] [],.assign 5 (.lit (.int 12)),.assign 6 (.lit (.int 4)),.ite (.cmp (.var 1) .eq (.lit (.int 10))) [.assign 5 (.lit (.int 8)),.assign 6 (.lit (.int 16))] [],.assign 7 (.call (.glob 1 (.fn 0)) [(.slice (.var 0) (.var 5) (.bin .add (.var 5) (.var 6)))]),.assign 8 (.call (.glob 1 (.fn 0)) [(.slice (.var 0) (.bin .add (.var 5) (.var 6)) (.bin .add (.bin .add (.var 5) (.var 6)) (.var 6)))]),.ret (.tup [(.var 1),(.var 2),(.var 7),(.item (.var 4) (.lit (.int 0))),(.var 8),(.item (.var 4) (.lit (.int 1)))])]
noncomputable def Ql:FD:=⟨[148,164,165,18],[],[148,164,165,18,170,152,154,171,172],V4⟩
noncomputable def V6:List MS:=
 [.assign 1 (.call (.glob 50 (.fn 10)) [(.var 0)]),.ite (.or [(.cmp (.var 1) .sf (.tup [(.lit (.int 2)),(.lit (.int 10))])),(.cmp (.attr (.var 0) 18) .lt (.lit (.int 0)))]) [.ret (.lit .none)] [],.ret (.call (.glob 51 (.fn 22)) [(.attr (.var 0) 13),(.var 1),(.attr (.var 0) 17),(.attr (.var 0) 18)])]
noncomputable def Q6:FD:=⟨[67],[],[67,164],V6⟩
noncomputable def V7:List MS:=
 [.assign 2 (.ite (.cmp (.var 1) .eq (.lit (.int 2))) (.call (.glob 22 (.fn 1)) [(.var 0)]) (.call (.glob 23 (.fn 5)) [(.var 0)])),.ite (.or [(.cmp (.var 2) .is (.lit .none)),(.cmp (.item (.var 2) (.lit (.int 2))) .ne (.lit (.int 0)))]) [.ret (.lit .none)] [],.never]
noncomputable def Q7:FD:=⟨[148,164],[],[148,164,173],V7⟩
noncomputable def V8:List MS:=
 [.unpack [1,2,3,4,5,6] (.var 0),.ite (.not (.call (.glob 47 (.fn 18)) [(.var 1),(.var 2)])) [.ret (.tup [(.var 1),(.var 2),(.var 5),(.var 6),(.var 3),(.var 4)])] [],.assign 7 (.call (.glob 48 (.fn 20)) [(.var 1),(.bin .shr (.var 6) (.lit (.int 8)))]),.ite (.cmp (.var 7) .lt (.lit (.int 0))) [.ret (.lit .none)] [],.ret (.tup [(.var 1),(.var 2),(.var 5),(.var 4),(.var 3),(.bin .add (.bin .mul (.var 7) (.lit (.int 256))) (.bin .band (.var 6) (.lit (.int 255))))])]
noncomputable def Qm:FD:=⟨[174],[],[174,164,165,171,175,172,176,168],V8⟩
noncomputable def V9:List MS:=
 [.ret (.ite (.var 1) (.attr (.var 0) 28) (.attr (.var 0) 27))]
noncomputable def Q8:FD:=⟨[70,177],[],[70,177],V9⟩
noncomputable def Wa:List MS:=
 [.for 2 (.tup [(.lit (.int 0)),(.lit (.int 1))]) [.assign 3 (.tup [(.attr (.var 1) 29),(.call (.glob 52 (.fn 26)) [(.var 1),(.var 2)])]),.ite (.cmp (.uI (.attr (.var 0) 39) (.var 3)) .eq (.tup [(.attr (.var 1) 26),(.var 2)])) [.jm (.attr (.var 0) 39) (.var 3)] []],.ite (.cmp (.attr (.var 1) 26) .isin (.attr (.var 0) 40)) [.jm (.attr (.var 0) 40) (.attr (.var 1) 26)] [],.for 3 (.bH .list 53 (.attr (.var 0) 44)) [.never],.setattr (.var 0) 43 (.o4 (.attr (.var 0) 43)),.setattr (.var 1) 32 (.bin .bor (.attr (.var 1) 32) (.glob 54 (.int 512)))]
noncomputable def Ud:FD:=⟨[178,70],[],[178,70,177,179],Wa⟩
noncomputable def Wb:List MS:=
 [.assign 4 (.uI (.attr (.var 0) 39) (.tup [(.var 1),(.var 2)])),.ite (.cmp (.var 4) .is (.lit .none)) [.ret (.lit .none)] [],.assign 5 (.item (.attr (.var 0) 40) (.item (.var 4) (.lit (.int 0)))),.ite (.cmp (.attr (.var 5) 30) .le (.var 3)) [.expr (.call (.glob 55 (.fn 27)) [(.var 0),(.var 5)]),.ret (.lit .none)] [],.ret (.tup [(.var 5),(.item (.var 4) (.lit (.int 1)))])]
noncomputable def Qn:FD:=⟨[178,29,174,69],[],[178,29,174,69,180,70],Wb⟩
noncomputable def Wc:List MS:=
 [.setattr (.var 1) 31 (.var 3),.ret (.lit (.bool true))]
noncomputable def Ue:FD:=⟨[178,70,67,69],[],[178,70,67,69],Wc⟩
noncomputable def Wd:List MS:=
 [.ite (.and [(.bin .band (.attr (.var 1) 32) (.glob 56 (.int 2))),(.cmp (.var 4) .gt (.bin .add (.attr (.var 1) 31) (.glob 57 (.int 2000))))]) [.setattr (.var 1) 30 (.bin .add (.var 4) (.glob 58 (.int 120000))),.setattr (.var 1) 32 (.bin .bor (.attr (.var 1) 32) (.glob 59 (.int 4)))] [.setattr (.var 1) 30 (.bin .add (.var 4) (.glob 60 (.int 30000)))],.ret (.lit (.str 61))]
noncomputable def Qo:FD:=⟨[178,70,67,177,69],[],[178,70,67,177,69],Wd⟩
noncomputable def We:List MS:=
 [.setattr (.var 1) 31 (.var 3),.assign 4 (.ite (.cmp (.item (.attr (.var 1) 27) (.lit (.int 0))) .eq (.lit (.int 2))) (.tup [(.lit (.int 8)),(.lit (.int 13)),(.lit (.int 15)),(.lit (.int 17))]) (.tup [(.lit (.int 128))])),.ret (.cmp (.bin .shr (.item (.attr (.var 1) 27) (.lit (.int 5))) (.lit (.int 8))) .isin (.var 4))]
noncomputable def Q9:FD:=⟨[178,70,67,69],[],[178,70,67,69,181],We⟩
noncomputable def Wf:List MS:=
 [.setattr (.var 1) 30 (.bin .add (.var 4) (.glob 62 (.int 30000))),.ret (.lit (.str 61))]
noncomputable def f32:FD:=⟨[178,70,67,177,69],[],[178,70,67,177,69],Wf⟩
noncomputable def Wg:List MS:=
 [.setattr (.var 1) 30 (.bin .add (.var 4) (.glob 63 (.int 600000))),.ret (.lit (.str 61))]
noncomputable def Ug:FD:=⟨[178,70,67,177,69],[],[178,70,67,177,69],Wg⟩
noncomputable def Wh:List MS:=
 [.assign 4 (.call (.glob 50 (.fn 10)) [(.var 1)]),.assign 5 (.call (.glob 64 (.fn 24)) [(.lH (.attr (.var 1) 13) (.bin .add (.attr (.var 1) 18) (.lit (.int 8)))),(.var 4)]),.ite (.cmp (.var 5) .is (.lit .none)) [.ret (.lit .none)] [],.never,.never,.never,.never,.never]
noncomputable def Uh:FD:=⟨[178,67,29,69],[],[178,67,29,69,164,182,183,180],Wh⟩
noncomputable def Wi:List MS:=
 [.assign 1 (.call (.glob 50 (.fn 10)) [(.var 0)]),.ite (.or [(.not (.call (.glob 47 (.fn 18)) [(.var 1),(.attr (.var 0) 17)])),(.cmp (.attr (.var 0) 18) .lt (.lit (.int 0))),(.cmp (.attr (.var 0) 18) .ge (.bH .len 0 (.attr (.var 0) 13)))]) [.never] [],.ret (.call (.glob 65 (.fn 19)) [(.var 1),(.item (.attr (.var 0) 13) (.attr (.var 0) 18))])]
noncomputable def Ui:FD:=⟨[67],[],[67,164],Wi⟩
noncomputable def Wj:List MS:=
 [.ite (.not (.call (.glob 66 (.fn 35)) [(.attr (.var 1) 67)])) [.ret (.lit (.bool false))] [],.assign 3 (.call (.glob 68 (.fn 34)) [(.var 0),(.attr (.var 1) 67),(.var 2),(.attr (.var 1) 69)]),.ite (.cmp (.var 3) .is (.lit .none)) [.setattr (.var 1) 70 (.lit .none),.setattr (.var 1) 33 (.glob 71 (.int 1)),.setattr (.var 1) 72 (.lit (.int 0))] [.never,.never,.never],.ret (.lit (.bool true))]
noncomputable def Ra:FD:=⟨[178,184,29],[],[178,184,29,180],Wj⟩
noncomputable def Wl:List MS:=
 [.assign 3 (.attr (.var 1) 67),.ite (.and [(.cmp (.call (.glob 50 (.fn 10)) [(.var 3)]) .eq (.lit (.int 10))),(.sj (.lit (.int 0)) .le (.attr (.var 3) 18) .le (.bin .sub (.bH .len 0 (.attr (.var 3) 13)) (.lit (.int 8))))]) [.ite (.cmp (.item (.attr (.var 3) 13) (.attr (.var 3) 18)) .isin (.tup [(.lit (.int 130)),(.lit (.int 131)),(.lit (.int 132)),(.lit (.int 133)),(.lit (.int 134)),(.lit (.int 135)),(.lit (.int 136)),(.lit (.int 143))])) [.setattr (.var 1) 70 (.lit .none),.setattr (.var 1) 33 (.glob 73 (.int 64)),.setattr (.var 1) 72 (.lit (.int 0)),.ret (.lit (.bool true))] []] [],.ret (.call (.glob 74 (.fn 36)) [(.var 0),(.var 1),(.var 2)])]
noncomputable def Rb:FD:=⟨[178,184,29],[],[178,184,29,67],Wl⟩
noncomputable def Wm:List MS:=
 [.ret (.dict [(.lit (.int 17)),(.dict [(.lit (.str 75)),(.glob 76 (.fn 29)),(.lit (.str 77)),(.glob 78 (.fn 30))])])]
noncomputable def Wn:FD:=⟨[],[],[],Wm⟩
noncomputable def Wo:List MS:=
 [.ret (.dict [(.lit (.int 1)),(.dict [(.lit (.str 75)),(.glob 79 (.fn 31)),(.lit (.str 77)),(.glob 80 (.fn 32)),(.lit (.str 81)),(.glob 74 (.fn 36))]),(.lit (.int 58)),(.dict [(.lit (.str 75)),(.glob 79 (.fn 31)),(.lit (.str 77)),(.glob 80 (.fn 32)),(.lit (.str 81)),(.glob 82 (.fn 37))])])]
noncomputable def Wq:FD:=⟨[],[],[],Wo⟩
noncomputable def Wr:List MS:=
 [.ret (.dict [(.neg (.lit (.int 1))),(.dict [(.lit (.str 75)),(.glob 76 (.fn 29)),(.lit (.str 77)),(.glob 83 (.fn 33))])])]
noncomputable def Ws:FD:=⟨[],[],[],Wr⟩
noncomputable def Wt:List MS:=
 [.never,.never,.never]
noncomputable def Wu:FD:=⟨[185,29,174],[],[185,29,174,164,165,171,172,176],Wt⟩
noncomputable def Wv:List MS:=
 [.for 4 (.bH .range 84 (.bH .len 0 (.attr (.var 0) 43))) [.never,.never],.ret (.lit .none)]
noncomputable def Uj:FD:=⟨[178,29,174,69],[],[178,29,174,69,19,185],Wv⟩
noncomputable def Ww:List MS:=
 [.ite (.cmp (.var 1) .isin (.attr (.var 0) 42)) [.ret (.item (.attr (.var 0) 42) (.var 1))] [],.ite (.cmp (.neg (.lit (.int 1))) .isin (.attr (.var 0) 42)) [.ret (.item (.attr (.var 0) 42) (.neg (.lit (.int 1))))] [],.never]
noncomputable def Nu:FD:=⟨[178,165],[],[178,165],Ww⟩
noncomputable def Wx:List MS:=
 [.never,.for 3 (.bH .list 53 (.attr (.var 0) 40)) [.never],.never]
noncomputable def Wy:FD:=⟨[178,69],[],[178,69,186,26],Wx⟩
noncomputable def Wz:List MS:=
 [.never,.for 2 (.bH .sorted 85 (.attr (.var 0) 40)) [.never],.never]
noncomputable def WA:FD:=⟨[178,69],[],[178,69,26],Wz⟩
noncomputable def WC:List MS:=
 [.setattr (.var 0) 70 (.var 1),.setattr (.var 0) 33 (.var 2),.setattr (.var 0) 72 (.var 3)]
noncomputable def Uk:FD:=⟨[184,70,33,72],[],[184,70,33,72],WC⟩
noncomputable def WD:List MS:=
 [.assign 3 (.call (.glob 86 (.fn 28)) [(.attr (.var 0) 40),(.var 1),(.var 2),(.attr (.var 0) 69)]),.ite (.cmp (.var 3) .is (.lit .none)) [.ret (.lit (.bool false))] [],.unpack [4,5] (.var 3),.ite (.or [(.cmp (.var 5) .eq (.lit (.int 1))),(.cmp (.bin .band (.attr (.var 4) 32) (.lit (.int 2))) .ne (.lit (.int 0)))]) [.expr (.call (.glob 87 (.fn 46)) [(.var 0),(.var 4),(.lit (.int 2)),(.var 5)])] [.expr (.call (.glob 87 (.fn 46)) [(.var 0),(.var 4),(.ite (.cmp (.bin .band (.attr (.var 4) 32) (.lit (.int 1))) .ne (.lit (.int 0))) (.lit (.int 4)) (.lit (.int 8))),(.lit (.int 0))])],.ret (.lit (.bool true))]
noncomputable def Nv:FD:=⟨[184,29,174],[],[184,29,174,180,70,177],WD⟩
noncomputable def WE:List MS:=
 [.assign 3 (.call (.glob 88 (.fn 42)) [(.attr (.var 0) 40),(.var 2),(.attr (.var 1) 27),(.attr (.var 0) 69)]),.ite (.cmp (.var 3) .is (.lit .none)) [.ret (.lit (.bool false))] [],.never,.never,.never,.never]
noncomputable def Ul:FD:=⟨[184,70,29],[],[184,70,29,185],WE⟩
noncomputable def Um:List MS:=
 [.assign 4 (.attr (.var 0) 40),.expr (.call (.glob 87 (.fn 46)) [(.var 0),(.lit .none),(.lit (.int 1)),(.lit (.int 0))]),.assign 5 (.call (.glob 89 (.fn 25)) [(.var 3)]),.ite (.cmp (.var 5) .is (.lit .none)) [.ret (.lit .none)] [],.ite (.and [(.cmp (.bH .len 0 (.attr (.var 4) 40)) .ge (.attr (.var 4) 36)),(.not (.call (.glob 90 (.fn 45)) [(.var 4),(.attr (.var 0) 69)]))]) [.never] [],.setattr (.var 4) 41 (.bin .add (.attr (.var 4) 41) (.lit (.int 1))),.assign 6 (.call (.glob 91 (.cl 16)) [(.attr (.var 4) 41),(.var 3),(.var 5),(.var 2)]),.setattr (.var 6) 31 (.attr (.var 0) 69),.ite (.call (.item (.var 1) (.lit (.str 75))) [(.var 4),(.var 6),(.attr (.var 0) 67),(.attr (.var 0) 69)]) [.expr (.call (.glob 87 (.fn 46)) [(.var 0),(.var 6),(.ite (.call (.glob 92 (.fn 48)) [(.var 0),(.var 6),(.var 2)]) (.lit (.int 4)) (.lit (.int 8))),(.lit (.int 0))])] [],.ret (.lit .none)]
noncomputable def Qp:FD:=⟨[184,187,29,174],[],[184,187,29,174,178,28,70],Um⟩
noncomputable def WG:List MS:=
 [.assign 4 (.attr (.var 0) 40),.assign 5 (.lit (.str 93)),.while (.cmp (.var 5) .eq (.lit (.str 93))) [.ite (.not (.call (.glob 94 (.fn 47)) [(.var 0),(.var 2),(.var 3)])) [.assign 6 (.call (.glob 95 (.fn 49)) [(.var 0),(.var 1),(.var 2),(.var 3)]),.ite (.cmp (.attr (.var 0) 70) .is (.lit .none)) [.ret (.var 6)] []] [],.assign 5 (.call (.item (.var 1) (.lit (.str 77))) [(.var 4),(.attr (.var 0) 70),(.attr (.var 0) 67),(.attr (.var 0) 72),(.attr (.var 0) 69)]),.ite (.cmp (.var 5) .eq (.lit (.str 93))) [.never] []],.ite (.cmp (.var 5) .eq (.lit (.str 96))) [.never] [.ite (.cmp (.attr (.var 0) 72) .eq (.lit (.int 1))) [.setattr (.attr (.var 0) 70) 32 (.bin .bor (.attr (.attr (.var 0) 70) 32) (.lit (.int 2)))] []],.ret (.lit .none)]
noncomputable def Nx:FD:=⟨[184,187,29,174],[],[184,187,29,174,178,168,188],WG⟩
noncomputable def WH:List MS:=
 [.ite (.cmp (.attr (.var 0) 33) .eq (.lit (.int 64))) [.ret (.lit .none)] [],.assign 2 (.call (.glob 97 (.fn 23)) [(.attr (.var 0) 67)]),.ite (.cmp (.var 2) .is (.lit .none)) [.expr (.call (.glob 87 (.fn 46)) [(.var 0),(.lit .none),(.lit (.int 1)),(.lit (.int 0))]),.ret (.lit .none)] [],.assign 3 (.call (.glob 98 (.fn 43)) [(.attr (.var 0) 40),(.item (.var 2) (.lit (.int 1)))]),.ite (.and [(.cmp (.lit (.str 81)) .isin (.var 3)),(.call (.item (.var 3) (.lit (.str 81))) [(.attr (.var 0) 40),(.var 0),(.var 1)])]) [.ret (.lit .none)] [],.ret (.call (.glob 99 (.fn 50)) [(.var 0),(.var 3),(.var 1),(.var 2)])]
noncomputable def M9:FD:=⟨[184,29],[(.int 0)],[184,29,174,187],WH⟩
noncomputable def WI:List MS:=
 [.assign 1 (.attr (.var 0) 40),.assign 2 (.attr (.var 0) 70),.ite (.or [(.cmp (.var 2) .is (.lit .none)),(.cmp (.bin .band (.attr (.var 2) 32) (.lit (.int 8))) .ne (.lit (.int 0)))]) [.ret (.lit .none)] [],.for 3 (.tup [(.attr (.var 2) 27),(.attr (.var 2) 28)]) [.ite (.cmp (.call (.glob 86 (.fn 28)) [(.var 1),(.attr (.var 2) 29),(.var 3),(.attr (.var 0) 69)]) .qT (.lit .none)) [.ret (.tup [(.lit (.str 100)),(.lit (.str 101))])] []],.aS (.attr (.var 1) 39) (.tup [(.attr (.var 2) 29),(.attr (.var 2) 27)]) (.tup [(.attr (.var 2) 26),(.lit (.int 0))]),.aS (.attr (.var 1) 39) (.tup [(.attr (.var 2) 29),(.attr (.var 2) 28)]) (.tup [(.attr (.var 2) 26),(.lit (.int 1))]),.aS (.attr (.var 1) 40) (.attr (.var 2) 26) (.var 2),.setattr (.var 2) 32 (.bin .bor (.attr (.var 2) 32) (.lit (.int 8))),.ret (.lit .none)]
noncomputable def Ny:FD:=⟨[184],[],[184,178,70,174],WI⟩
noncomputable def Un:List MS:=
 [.setattr (.var 0) 67 (.var 1),.setattr (.var 0) 69 (.var 3),.setattr (.var 0) 103 (.var 4),.setattr (.var 0) 70 (.lit .none),.setattr (.var 0) 33 (.lit (.int 1)),.setattr (.var 0) 72 (.lit (.int 0)),.setattr (.var 0) 40 (.lit .none),.setattr (.var 0) 104 (.dict []),.setattr (.var 0) 105 (.dict []),.setattr (.var 0) 106 (.var 2),.setattr (.var 0) 107 (.dict []),.setattr (.var 0) 108 (.dict []),.setattr (.var 0) 109 (.dict []),.setattr (.var 0) 110 (.dict []),.setattr (.var 0) 111 (.lit (.str 112)),.setattr (.var 0) 113 (.lst []),.setattr (.var 0) 114 (.lst []),.setattr (.var 0) 115 (.lit .none),.setattr (.var 0) 116 (.dict [])]
noncomputable def Uo:FD:=⟨[158,67,106,69,103],[(.int 0),(.str 102)],[158,67,106,69,103],Un⟩
noncomputable def WJ:List MS:=
 [.ret (.ite (.cmp (.var 1) .lt (.bH .len 0 (.var 0))) (.item (.var 0) (.var 1)) (.lit (.int 0)))]
noncomputable def Rc:FD:=⟨[189,19],[],[189,19],WJ⟩
noncomputable def WK:List MS:=
 [.ret (.nX (.bin .mod (.bin .fdiv (.var 0) (.bin .pow (.lit (.int 256)) (.bin .sub (.bin .sub (.var 1) (.lit (.int 1))) (.var 2)))) (.lit (.int 256))) 2 (.bH .range 84 (.var 1)))]
noncomputable def WL:FD:=⟨[26,154],[],[26,154,190],WK⟩
noncomputable def WM:List MS:=
 [.ret (.ite (.cmp (.var 1) .eq (.lit (.int 2))) (.bin .add (.lit (.int 167772161)) (.var 0)) (.bin .add (.bin .add (.bin .sub (.bin .pow (.lit (.int 2)) (.lit (.int 127))) (.bin .pow (.lit (.int 2)) (.lit (.int 120)))) (.bin .mul (.lit (.int 257)) (.var 0))) (.lit (.int 1))))]
noncomputable def WN:FD:=⟨[153,191],[],[153,191],WM⟩
noncomputable def WO:List MS:=
 [.ret (.ite (.cmp (.var 0) .eq (.lit (.int 2))) (.lst [(.tup [(.lit (.int 8)),(.lit (.int 0))]),(.tup [(.lit (.int 13)),(.lit (.int 14))]),(.tup [(.lit (.int 15)),(.lit (.int 16))]),(.tup [(.lit (.int 17)),(.lit (.int 18))])]) (.lst [(.tup [(.lit (.int 128)),(.lit (.int 129))]),(.tup [(.lit (.int 128)),(.lit (.int 129))])]))]
noncomputable def Rf:FD:=⟨[191],[],[191],WO⟩
noncomputable def Up:List MS:=
 [.assign 3 (.item (.item (.var 0) (.lit (.str 117))) (.lit (.int 0))),.unpack [4,5] (.tup [(.item (.item (.item (.var 0) (.lit (.str 118))) (.lit (.int 0))) (.lit (.int 0))),(.item (.item (.item (.var 0) (.lit (.str 118))) (.lit (.int 1))) (.lit (.int 0)))]),.assign 6 (.ite (.cmp (.bin .mod (.var 1) (.lit (.int 4))) .eq (.lit (.int 3))) (.lit (.int 8)) (.lit (.int 7))),.assign 7 (.call (.glob 119 (.fn 57)) [(.var 3)]),.assign 8 (.bin .mod (.bin .fdiv (.var 1) (.lit (.int 4))) (.bin .add (.bH .len 0 (.var 7)) (.lit (.int 1)))),.assign 9 (.bin .mod (.bin .fdiv (.var 1) (.lit (.int 20))) (.lit (.int 2))),.aS (.var 0) (.lit (.str 118)) (.lst [(.tup [(.var 4),(.var 6)]),(.tup [(.var 5),(.var 6)])]),.ite (.cmp (.var 8) .eq (.bH .len 0 (.var 7))) [.aS (.var 0) (.lit (.str 120)) (.lit (.bool true)),.assign 10 (.ite (.cmp (.var 3) .eq (.lit (.int 2))) (.item (.lst [(.lit (.int 9)),(.lit (.int 3))]) (.var 9)) (.item (.lst [(.lit (.int 135)),(.lit (.int 1))]) (.var 9))),.aS (.var 0) (.lit (.str 121)) (.cmp (.var 10) .eq (.lit (.int 135))),.ret (.lst [(.var 10),(.lit (.int 0)),(.lit (.int 0)),(.lit (.int 0)),(.lit (.int 0)),(.var 6),(.lit (.int 0)),(.lit (.int 1))])] [],.aS (.var 0) (.lit (.str 122)) (.var 2),.unpack [11,12] (.item (.var 7) (.var 8)),.assign 13 (.tup [(.var 3),(.item (.item (.var 0) (.lit (.str 117))) (.lit (.int 1)))]),.aS (.var 0) (.lit (.str 117)) (.bin .add (.var 13) (.tup [(.var 11),(.var 9)])),.aS (.var 0) (.lit (.str 123)) (.bin .add (.var 13) (.tup [(.var 4),(.var 6),(.var 5),(.bin .add (.bin .mul (.lit (.int 256)) (.var 11)) (.var 9))])),.aS (.var 0) (.lit (.str 124)) (.bin .add (.var 13) (.tup [(.var 5),(.var 6),(.var 4),(.bin .add (.bin .mul (.lit (.int 256)) (.var 12)) (.var 9))])),.ret (.lst [(.ite (.var 2) (.var 12) (.var 11)),(.var 9),(.lit (.int 0)),(.lit (.int 0)),(.lit (.int 0)),(.var 6),(.lit (.int 0)),(.lit (.int 1))])]
noncomputable def Rg:FD:=⟨[173,192,122],[],[173,192,122,191,193,151,169,166,194,195,16,167,168,196],Up⟩
noncomputable def WR:List MS:=
 [.assign 3 (.j3 (.item (.var 0) (.lit (.str 117))) (.lit (.int 2))),.unpack [4,5] (.tup [(.item (.item (.item (.var 0) (.lit (.str 118))) (.lit (.int 0))) (.lit (.int 0))),(.item (.item (.item (.var 0) (.lit (.str 118))) (.lit (.int 1))) (.lit (.int 0)))]),.unpack [6,7] (.tup [(.lit (.int 0)),(.lit (.int 0))]),.ite (.cmp (.item (.var 3) (.lit (.int 1))) .eq (.lit (.int 17))) [.assign 6 (.bin .add (.bin .add (.lit (.int 1000)) (.item (.var 2) (.lit (.int 0)))) (.ite (.cmp (.bin .mod (.var 1) (.lit (.int 4))) .eq (.lit (.int 3))) (.lit (.int 10)) (.lit (.int 0)))),.assign 7 (.bin .add (.bin .add (.lit (.int 1000)) (.item (.var 2) (.lit (.int 1)))) (.ite (.cmp (.bin .mod (.var 1) (.lit (.int 4))) .eq (.lit (.int 2))) (.lit (.int 10)) (.lit (.int 0))))] [],.aS (.var 0) (.lit (.str 118)) (.lst [(.tup [(.var 4),(.var 6)]),(.tup [(.var 5),(.var 7)])]),.aS (.var 0) (.lit (.str 123)) (.bin .add (.var 3) (.tup [(.var 4),(.var 6),(.var 5),(.var 7)])),.aS (.var 0) (.lit (.str 124)) (.bin .add (.var 3) (.tup [(.var 5),(.var 7),(.var 4),(.var 6)])),.ite (.cmp (.item (.var 3) (.lit (.int 1))) .eq (.lit (.int 17))) [.ret (.bin .add (.bin .add (.call (.glob 125 (.fn 55)) [(.var 6),(.lit (.int 2))]) (.call (.glob 125 (.fn 55)) [(.var 7),(.lit (.int 2))])) (.lst [(.lit (.int 0)),(.lit (.int 12)),(.lit (.int 0)),(.lit (.int 0)),(.lit (.int 1)),(.lit (.int 2)),(.lit (.int 3)),(.lit (.int 4))]))] [],.ret (.lst [(.lit (.int 0)),(.lit (.int 0)),(.lit (.int 8)),(.lit (.int 0)),(.lit (.int 69)),(.lit (.int 1)),(.lit (.int 2)),(.lit (.int 3))])]
noncomputable def Nz:FD:=⟨[173,192,161],[],[173,192,161,196,193,151,175,176],WR⟩
noncomputable def WS:List MS:=
 [.ite (.cmp (.var 0) .eq (.lit (.int 2))) [.assign 6 (.ite (.cmp (.var 5) .eq (.lit (.int 5))) (.lst [(.lit (.int 0)),(.lit (.int 185))]) (.lst [(.lit (.int 0)),(.lit (.int 0))])),.assign 7 (.bin .add (.bin .add (.bin .add (.bin .add (.lst [(.lit (.int 69)),(.lit (.int 0))]) (.call (.glob 125 (.fn 55)) [(.bin .add (.lit (.int 20)) (.bH .len 0 (.var 4))),(.lit (.int 2))])) (.lst [(.lit (.int 0)),(.lit (.int 1))])) (.var 6)) (.lst [(.lit (.int 64)),(.var 1),(.lit (.int 0)),(.lit (.int 0))])),.assign 7 (.bin .add (.bin .add (.var 7) (.call (.glob 125 (.fn 55)) [(.var 2),(.lit (.int 4))])) (.call (.glob 125 (.fn 55)) [(.var 3),(.lit (.int 4))]))] [.assign 7 (.bin .add (.bin .add (.lst [(.lit (.int 96)),(.lit (.int 0)),(.lit (.int 0)),(.lit (.int 0))]) (.call (.glob 125 (.fn 55)) [(.bH .len 0 (.var 4)),(.lit (.int 2))])) (.lst [(.var 1),(.lit (.int 64))])),.assign 7 (.bin .add (.bin .add (.var 7) (.call (.glob 125 (.fn 55)) [(.var 2),(.lit (.int 16))])) (.call (.glob 125 (.fn 55)) [(.var 3),(.lit (.int 16))]))],.ite (.or [(.cmp (.var 5) .eq (.lit (.int 6))),(.and [(.cmp (.var 5) .eq (.lit (.int 5))),(.cmp (.var 0) .eq (.lit (.int 10)))])]) [.assign 4 (.j3 (.var 4) (.lit (.int 3)))] [],.ret (.bH .bytes 126 (.bin .add (.var 7) (.var 4)))]
noncomputable def KR:FD:=⟨[191,165,171,172,197,198],[],[191,165,171,172,197,198,19,196],WS⟩
noncomputable def Rh:List MS:=
 [.assign 3 (.bin .mod (.bin .add (.item (.lst [(.lit (.int 0)),(.lit (.int 0)),(.lit (.int 0)),(.lit (.int 1)),(.lit (.int 1)),(.lit (.int 1)),(.lit (.int 0)),(.lit (.int 0))]) (.var 2)) (.call (.glob 127 (.fn 54)) [(.var 0),(.var 1)])) (.lit (.int 6))),.unpack [4,5] (.item (.lst [(.tup [(.lit (.int 2)),(.lit (.int 17))]),(.tup [(.lit (.int 2)),(.lit (.int 1))]),(.tup [(.lit (.int 10)),(.lit (.int 17))]),(.tup [(.lit (.int 10)),(.lit (.int 58))]),(.tup [(.lit (.int 2)),(.lit (.int 47))]),(.tup [(.lit (.int 2)),(.lit (.int 17))])]) (.var 3)),.assign 6 (.call (.glob 127 (.fn 54)) [(.var 0),(.bin .add (.var 1) (.lit (.int 1)))]),.assign 7 (.bin .mod (.bin .add (.item (.lst [(.lit (.int 0)),(.lit (.int 1)),(.lit (.int 0)),(.lit (.int 0)),(.lit (.int 2)),(.lit (.int 0)),(.lit (.int 2)),(.lit (.int 0))]) (.var 2)) (.var 6)) (.lit (.int 3))),.assign 8 (.bin .mod (.bin .add (.bin .add (.var 7) (.lit (.int 1))) (.bin .mod (.bin .add (.item (.lst [(.lit (.int 0)),(.lit (.int 1)),(.lit (.int 0)),(.lit (.int 1)),(.lit (.int 0)),(.lit (.int 1)),(.lit (.int 1)),(.lit (.int 0))]) (.var 2)) (.bin .fdiv (.var 6) (.lit (.int 3)))) (.lit (.int 2)))) (.lit (.int 3))),.assign 9 (.bin .mod (.bin .fdiv (.call (.glob 127 (.fn 54)) [(.var 0),(.bin .add (.var 1) (.lit (.int 3)))]) (.lit (.int 16))) (.lit (.int 8))),.assign 10 (.dict [(.lit (.str 29)),(.ite (.cmp (.bin .mod (.call (.glob 127 (.fn 54)) [(.var 0),(.bin .add (.var 1) (.lit (.int 3)))]) (.lit (.int 4))) .eq (.lit (.int 3))) (.lit (.int 1)) (.lit (.int 0))),(.lit (.str 122)),(.lit (.bool false))]),.aS (.var 10) (.lit (.str 120)) (.lit (.bool false)),.aS (.var 10) (.lit (.str 121)) (.lit (.bool false)),.aS (.var 10) (.lit (.str 128)) (.or [(.cmp (.var 9) .eq (.lit (.int 5))),(.and [(.cmp (.var 9) .eq (.lit (.int 6))),(.cmp (.var 5) .ne (.lit (.int 47)))])]),.aS (.var 10) (.lit (.str 117)) (.tup [(.var 4),(.var 5),(.lit (.int 0)),(.lit (.int 0))]),.unpack [11,12] (.tup [(.call (.glob 129 (.fn 56)) [(.var 7),(.var 4)]),(.call (.glob 129 (.fn 56)) [(.var 8),(.var 4)])]),.aS (.var 10) (.lit (.str 118)) (.lst [(.tup [(.var 11),(.lit (.int 0))]),(.tup [(.var 12),(.lit (.int 0))])]),.ite (.cmp (.var 3) .isin (.lst [(.lit (.int 1)),(.lit (.int 3))])) [.assign 13 (.call (.glob 130 (.fn 58)) [(.var 10),(.call (.glob 127 (.fn 54)) [(.var 0),(.bin .add (.var 1) (.lit (.int 2)))]),(.cmp (.cmp (.var 2) .eq (.lit (.int 4))) .ne (.cmp (.bin .mod (.bin .fdiv (.var 6) (.lit (.int 6))) (.lit (.int 2))) .eq (.lit (.int 1))))])] [.assign 13 (.call (.glob 131 (.fn 59)) [(.var 10),(.call (.glob 127 (.fn 54)) [(.var 0),(.bin .add (.var 1) (.lit (.int 2)))]),(.tup [(.var 7),(.var 8)])])],.ret (.tup [(.var 10),(.var 9),(.call (.glob 132 (.fn 60)) [(.var 4),(.var 5),(.var 11),(.var 12),(.var 13),(.var 9)])])]
noncomputable def Uq:FD:=⟨[189,152,190],[],[189,152,190,199,191,165,200,193,151,198,173,171,172,197],Rh⟩
noncomputable def Ur:List MS:=
 [.for 3 (.var 0) [.ite (.or [(.not (.item (.var 3) (.lit (.str 133)))),(.cmp (.item (.var 3) (.lit (.str 29))) .ne (.item (.var 1) (.lit (.str 29)))),(.cmp (.item (.var 3) (.lit (.str 117))) .ne (.item (.var 1) (.lit (.str 117))))]) [.cont] [],.assign 4 (.and [(.cmp (.item (.var 3) (.lit (.str 118))) .eq (.item (.var 1) (.lit (.str 118)))),(.not (.item (.var 1) (.lit (.str 122))))]),.assign 5 (.cmp (.item (.var 3) (.lit (.str 118))) .eq (.lst [(.item (.item (.var 1) (.lit (.str 118))) (.lit (.int 1))),(.item (.item (.var 1) (.lit (.str 118))) (.lit (.int 0)))])),.ite (.and [(.cmp (.item (.item (.var 1) (.lit (.str 117))) (.lit (.int 1))) .isin (.lst [(.lit (.int 1)),(.lit (.int 58))])),(.not (.item (.var 1) (.lit (.str 122))))]) [.assign 5 (.lit (.bool false))] [],.ite (.and [(.not (.var 4)),(.not (.var 5))]) [.cont] [],.ite (.cmp (.item (.var 3) (.lit (.str 30))) .gt (.var 2)) [.ret (.tup [(.var 3),(.ite (.var 5) (.lit (.int 1)) (.lit (.int 0)))])] [],.aS (.var 3) (.lit (.str 133)) (.lit (.bool false)),.aS (.var 3) (.lit (.str 32)) (.bin .add (.item (.var 3) (.lit (.str 32))) (.lit (.int 512)))],.ret (.tup [(.lit .none),(.lit (.int 0))])]
noncomputable def Qq:FD:=⟨[201,173,69],[],[201,173,69,202,203,204],Ur⟩
noncomputable def Qs:List MS:=
 [.ite (.or [(.item (.var 2) (.lit (.str 128))),(.item (.var 2) (.lit (.str 120)))]) [.ret (.tup [(.lit .none),(.ite (.and [(.item (.var 2) (.lit (.str 121))),(.not (.item (.var 2) (.lit (.str 128))))]) (.lit (.int 64)) (.lit (.int 1))),(.lit (.int 0))])] [],.unpack [4,5] (.call (.glob 134 (.fn 62)) [(.var 0),(.var 2),(.var 3)]),.ite (.cmp (.var 4) .is (.lit .none)) [.aS (.var 1) (.lit (.int 0)) (.bin .add (.item (.var 1) (.lit (.int 0))) (.lit (.int 1))),.ite (.item (.var 2) (.lit (.str 122))) [.ret (.tup [(.lit .none),(.lit (.int 1)),(.lit (.int 0))])] [],.jR 4 2 8 (.lst [(.lit (.str 29)),(.lit (.str 117)),(.lit (.str 118)),(.lit (.str 123)),(.lit (.str 124))]),.aS (.var 4) (.lit (.str 26)) (.item (.var 1) (.lit (.int 0))),.aS (.var 4) (.lit (.str 31)) (.var 3),.aS (.var 4) (.lit (.str 32)) (.lit (.int 0)),.aS (.var 4) (.lit (.str 133)) (.lit (.bool false)),.expr (.append (.var 0) (.var 4)),.assign 6 (.lit (.int 8))] [.assign 6 (.ite (.or [(.cmp (.var 5) .eq (.lit (.int 1))),(.cmp (.bin .mod (.bin .fdiv (.item (.var 4) (.lit (.str 32))) (.lit (.int 2))) (.lit (.int 2))) .eq (.lit (.int 1)))]) (.lit (.int 2)) (.lit (.int 8)))],.assign 7 (.item (.item (.var 2) (.lit (.str 117))) (.lit (.int 1))),.aS (.var 4) (.lit (.str 30)) (.bin .add (.var 3) (.ite (.cmp (.var 7) .eq (.lit (.int 47))) (.lit (.int 600000)) (.lit (.int 30000)))),.ite (.and [(.cmp (.var 7) .eq (.lit (.int 17))),(.cmp (.bin .mod (.bin .fdiv (.item (.var 4) (.lit (.str 32))) (.lit (.int 2))) (.lit (.int 2))) .eq (.lit (.int 1))),(.cmp (.bin .sub (.var 3) (.item (.var 4) (.lit (.str 31)))) .gt (.lit (.int 2000)))]) [.aS (.var 4) (.lit (.str 30)) (.bin .add (.var 3) (.lit (.int 120000))),.ite (.cmp (.bin .mod (.bin .fdiv (.item (.var 4) (.lit (.str 32))) (.lit (.int 4))) (.lit (.int 2))) .eq (.lit (.int 0))) [.aS (.var 4) (.lit (.str 32)) (.bin .add (.item (.var 4) (.lit (.str 32))) (.lit (.int 4)))] []] [],.ite (.and [(.cmp (.var 5) .eq (.lit (.int 1))),(.cmp (.bin .mod (.bin .fdiv (.item (.var 4) (.lit (.str 32))) (.lit (.int 2))) (.lit (.int 2))) .eq (.lit (.int 0)))]) [.aS (.var 4) (.lit (.str 32)) (.bin .add (.item (.var 4) (.lit (.str 32))) (.lit (.int 2)))] [],.ret (.tup [(.var 4),(.var 6),(.var 5)])]
noncomputable def D7:FD:=⟨[201,205,173,69],[],[201,205,173,69,202,177,33,165,157],Qs⟩
noncomputable def WT:List MS:=
 [.ite (.or [(.cmp (.var 1) .is (.lit .none)),(.cmp (.bin .mod (.bin .fdiv (.item (.var 1) (.lit (.str 32))) (.lit (.int 8))) (.lit (.int 2))) .eq (.lit (.int 1)))]) [.ret (.lit .none)] [],.ite (.cmp (.item (.call (.glob 134 (.fn 62)) [(.var 0),(.var 2),(.var 3)]) (.lit (.int 0))) .qT (.lit .none)) [.ret (.tup [(.lit (.str 100)),(.lit (.str 101))])] [],.aS (.var 1) (.lit (.str 133)) (.lit (.bool true)),.aS (.var 1) (.lit (.str 32)) (.bin .add (.item (.var 1) (.lit (.str 32))) (.lit (.int 8))),.ret (.lit .none)]
noncomputable def f64:FD:=⟨[201,202,173,69],[],[201,202,173,69],WT⟩
noncomputable def WU:List MS:=
 [.assign 2 (.lst [(.attr (.var 0) 26),(.attr (.var 0) 27),(.attr (.var 0) 28),(.attr (.var 0) 29),(.attr (.var 0) 30),(.attr (.var 0) 31),(.attr (.var 0) 32)]),.jQ 3 1 4 (.lst [(.lit (.str 26)),(.lit (.str 123)),(.lit (.str 124)),(.lit (.str 29)),(.lit (.str 30)),(.lit (.str 31)),(.lit (.str 32))]),.ret (.and [(.cmp (.var 2) .eq (.var 3)),(.cmp (.lst [(.attr (.var 0) 4),(.attr (.var 0) 35),(.attr (.var 0) 33),(.attr (.var 0) 34)]) .eq (.lst [(.lit (.int 0)),(.lit (.int 0)),(.lit (.int 0)),(.lit .none)]))])]
noncomputable def Us:FD:=⟨[70,202],[],[70,202,206,207,157],WU⟩
noncomputable def Qt:List MS:=
 [.assign 4 (.dict []),.assign 5 (.cell []),.for 6 (.bH .range 84 (.bH .len 0 (.var 1))) [.assign 7 (.item (.var 1) (.var 6)),.ite (.not (.call (.glob 135 (.fn 65)) [(.item (.var 3) (.var 6)),(.var 7)])) [.ret (.lit (.bool false))] [],.ite (.item (.var 7) (.lit (.str 133))) [.expr (.append (.var 5) (.item (.var 7) (.lit (.str 26)))),.aS (.var 4) (.tup [(.item (.var 7) (.lit (.str 29))),(.item (.var 7) (.lit (.str 123)))]) (.tup [(.item (.var 7) (.lit (.str 26))),(.lit (.int 0))]),.aS (.var 4) (.tup [(.item (.var 7) (.lit (.str 29))),(.item (.var 7) (.lit (.str 124)))]) (.tup [(.item (.var 7) (.lit (.str 26))),(.lit (.int 1))]),.ite (.or [(.cmp (.item (.var 7) (.lit (.str 26))) .sf (.attr (.var 0) 40)),(.cmp (.attr (.item (.attr (.var 0) 40) (.item (.var 7) (.lit (.str 26)))) 26) .ne (.item (.var 7) (.lit (.str 26))))]) [.ret (.lit (.bool false))] []] []],.ret (.and [(.cmp (.bH .sorted 85 (.attr (.var 0) 40)) .eq (.var 5)),(.cmp (.attr (.var 0) 39) .eq (.var 4)),(.cmp (.attr (.var 0) 41) .eq (.item (.var 2) (.lit (.int 0)))),(.cmp (.attr (.var 0) 43) .eq (.lst []))])]
noncomputable def Ut:FD:=⟨[178,201,205,208],[],[178,201,205,208,39,209,190,202],Qt⟩
noncomputable def HG:List MS:=
 [.assign 1 (.call (.glob 136 (.cl 17)) []),.for 2 (.lst [(.call (.glob 137 (.fn 38)) []),(.call (.glob 138 (.fn 39)) []),(.call (.glob 139 (.fn 40)) [])]) [.sq 3 1 42 2],.unpack [4,5,6,7] (.tup [(.cell []),(.cell [(.lit (.int 0))]),(.cell []),(.lst [])]),.assign 8 (.lit (.int 1000)),.for 9 (.bH .range 84 (.lit (.int 8))) [.assign 10 (.bin .mul (.lit (.int 5)) (.var 9)),.assign 8 (.bin .add (.bin .add (.var 8) (.item (.lst [(.lit (.int 0)),(.lit (.int 3000)),(.lit (.int 500)),(.lit (.int 100)),(.lit (.int 200)),(.lit (.int 40000)),(.lit (.int 100)),(.lit (.int 125000))]) (.var 9))) (.bin .mod (.call (.glob 127 (.fn 54)) [(.var 0),(.bin .add (.var 10) (.lit (.int 4)))]) (.lit (.int 200000)))),.unpack [11,12,13] (.call (.glob 140 (.fn 61)) [(.var 0),(.var 10),(.var 9)]),.assign 14 (.call (.glob 141 (.cl 53)) [(.call (.glob 142 (.fn 9)) [(.var 13),(.ite (.cmp (.item (.item (.var 11) (.lit (.str 117))) (.lit (.int 0))) .eq (.lit (.int 2))) (.lit (.int 2048)) (.lit (.int 34525)))]),(.dict []),(.var 8)]),.setattr (.var 14) 40 (.var 1),.unpack [15,16,17] (.tup [(.lit .none),(.lit (.int 64)),(.lit (.int 0))]),.ite (.cmp (.var 12) .eq (.lit (.int 7))) [.setattr (.var 14) 33 (.lit (.int 64))] [.unpack [15,16,17] (.call (.glob 143 (.fn 63)) [(.var 4),(.var 5),(.var 11),(.var 8)])],.ite (.or [(.cmp (.call (.glob 144 (.fn 51)) [(.var 14),(.item (.var 11) (.lit (.str 29)))]) .qT (.lit .none)),(.cmp (.attr (.var 14) 33) .ne (.var 16)),(.cmp (.attr (.var 14) 72) .ne (.var 17))]) [.ret (.lit (.bool false))] [],.ite (.cmp (.cmp (.attr (.var 14) 70) .is (.lit .none)) .ne (.cmp (.var 15) .is (.lit .none))) [.ret (.lit (.bool false))] [],.ite (.cmp (.bH .len 0 (.var 6)) .lt (.bH .len 0 (.var 4))) [.expr (.append (.var 6) (.attr (.var 14) 70))] [],.ite (.and [(.cmp (.var 15) .qT (.lit .none)),(.cmp (.attr (.attr (.var 14) 70) 26) .ne (.item (.var 15) (.lit (.str 26))))]) [.ret (.lit (.bool false))] [],.assign 18 (.bin .mod (.bin .fdiv (.call (.glob 127 (.fn 54)) [(.var 0),(.bin .add (.var 10) (.lit (.int 3)))]) (.lit (.int 4))) (.lit (.int 4))),.assign 19 (.var 7),.ite (.cmp (.var 18) .lt (.lit (.int 2))) [.assign 19 (.bin .add (.lst [(.tup [(.var 14),(.var 15),(.var 11),(.var 8)])]) (.var 7))] [],.assign 7 (.ite (.cmp (.var 18) .eq (.lit (.int 3))) (.lst [(.tup [(.var 14),(.var 15),(.var 11),(.var 8)])]) (.lst [])),.for 20 (.var 19) [.ite (.cmp (.call (.glob 145 (.fn 52)) [(.item (.var 20) (.lit (.int 0)))]) .ne (.call (.glob 146 (.fn 64)) [(.var 4),(.item (.var 20) (.lit (.int 1))),(.item (.var 20) (.lit (.int 2))),(.item (.var 20) (.lit (.int 3)))])) [.ret (.lit (.bool false))] []],.ite (.not (.call (.glob 147 (.fn 66)) [(.var 1),(.var 4),(.var 5),(.var 6)])) [.ret (.lit (.bool false))] []],.ret (.lit (.bool true))]
noncomputable def KS:FD:=⟨[189],[],[189,178,210,165,201,205,208,211,69,190,152,173,198,148,184,202,33,177,212,213,214],HG⟩
noncomputable def fns:List FD:=[f0,f1,f2,f3,f4,f5,f6,f7,f8,f9,Q3,VL,VN,VP,VS,Q4,Uc,VW,M8,Q5,Nt,JM,Ql,Q6,Q7,Qm,Q8,Ud,Qn,Ue,Qo,Q9,f32,Ug,Uh,Ui,Ra,Rb,Wn,Wq,Ws,Wu,Uj,Nu,Wy,WA,Uk,Nv,Ul,Qp,Nx,M9,Ny,Uo,Rc,WL,WN,Rf,Rg,Nz,KR,Uq,Qq,D7,f64,Us,Ut,KS]
noncomputable def aO:List String:=["len","number_of","head_size","size_at","mark","priority","iif","oif","iifname","oifname","pkttype","iiftype","oiftype","data","bytearray","link","kind","l4","off","place","meta","new_meta","look4","look6","Packet","look","number","original","reply","zone","until","since","status","state","sides","master","most","seed","tries","table","talks","last","trackers","expects","flows","is_loose","error_kinds","is_icmp","answer_kind","ports_at","family_of","tuple_at","side_of","list","DYING","drop_talk","SEEN_REPLY","UDP_STREAM_FROM","UDP_STREAM_SPAN","ASSURED","UDP_SPAN","ok","ICMP_SPAN","PLAIN_SPAN","inner_tuple","is_error","is_error_packet","packet","talk_of_error","now","talk","INVALID","is_reply","UNTRACKED","error_talk","begin","begin_any","go","go_udp","begin_icmp","go_icmp","error","error_or_near","go_plain","range","sorted","look_up","put_talk","take_expect","invert","evict","Talk","relate_talk","again","found_talk","begin_talk","invalid","tuple_of","tracker_of","bring_on","drop","","input","hook","sets","objects","fields","readers","doers","ops","tools","order","little","log","replies","steps","homes","what","ends","_law_pairs","is_lone","is_near","is_answer","tuple","back","_law_octets","bytes","_law_digit","is_broken","_law_address","_law_echo","_law_plain","_law_whole","is_kept","_law_find","_law_is_talk","TalkBook","udp_trackers","icmp_trackers","plain_trackers","_law_seen","Scene","packet_of","_law_track","track","confirm","_law_confirm","_law_is_book","octets","octet","word","second","at","end","size","is_more","out","name","self","found","base","many","place4","place6","nfproto","protocol","pairs","ask","answer","ident","ports","source","target","seen","t","sport","dport","direction","book","key","hit","asks","inner","turned","scene","expect","gone","tracker","verdict","script","k","family","detail","first","pair","code","head","payload","flaw","sort","who","known","row","is_there","is_back","counter","told","due","held","kept","group","waiting","keep","turns","turn"]
noncomputable def nh:List (Nat × V):=[(59,(.int 4)),(54,(.int 512)),(62,(.int 30000)),(71,(.int 1)),(63,(.int 600000)),(24,(.cl 7)),(56,(.int 2)),(141,(.cl 53)),(91,(.cl 16)),(136,(.cl 17)),(60,(.int 30000)),(57,(.int 2000)),(58,(.int 120000)),(73,(.int 64)),(129,(.fn 56)),(146,(.fn 64)),(127,(.fn 54)),(130,(.fn 58)),(134,(.fn 62)),(147,(.fn 66)),(135,(.fn 65)),(125,(.fn 55)),(119,(.fn 57)),(131,(.fn 59)),(140,(.fn 61)),(143,(.fn 63)),(132,(.fn 60)),(48,(.fn 20)),(76,(.fn 29)),(79,(.fn 31)),(95,(.fn 49)),(99,(.fn 50)),(145,(.fn 52)),(55,(.fn 27)),(46,(.fn 15)),(82,(.fn 37)),(74,(.fn 36)),(90,(.fn 45)),(50,(.fn 10)),(94,(.fn 47)),(80,(.fn 32)),(83,(.fn 33)),(78,(.fn 30)),(2,(.fn 2)),(138,(.fn 39)),(64,(.fn 24)),(89,(.fn 25)),(65,(.fn 19)),(66,(.fn 35)),(47,(.fn 18)),(25,(.fn 8)),(22,(.fn 1)),(23,(.fn 5)),(86,(.fn 28)),(21,(.fn 6)),(1,(.fn 0)),(142,(.fn 9)),(139,(.fn 40)),(49,(.fn 21)),(87,(.fn 46)),(92,(.fn 48)),(52,(.fn 26)),(3,(.fn 3)),(88,(.fn 42)),(68,(.fn 34)),(144,(.fn 51)),(98,(.fn 43)),(51,(.fn 22)),(97,(.fn 23)),(137,(.fn 38))]
noncomputable def lI:List Nat:=[7,16,17,53]
noncomputable def bW:List Nat:=[152,13,108,43,106,44,116,103,45,72,16,17,41,15,113,4,35,20,36,69,26,105,18,109,111,27,67,19,107,114,28,37,104,34,31,33,32,115,174,39,70,40,110,42,38,30,29]
open PySem PySem.W PySem.Calls PyProof.Rows
noncomputable def jz(NM:Nat→Str)(n:Nat)(x:Str):Bool:=NM n==x
noncomputable def Ri:Op→Operator
 | .add=> .Add| .sub=> .Sub| .mul=> .Mult| .fdiv=> .FloorDiv| .mod=> .Mod| .pow=> .Pow| .shl=> .LShift| .shr=> .RShift| .band=> .BitAnd| .bor=> .BitOr
noncomputable def CD(a:Op)(o:Operator):Bool:=decide (Ri a=o)
noncomputable def Rj:Cm→CmpOp
 | .eq=> .Eq| .ne=> .NotEq| .lt=> .Lt| .le=> .LtE| .gt=> .Gt| .ge=> .GtE| .is=> .Is| .qT=> .IsNot| .isin=> .In| .sf=> .NotIn
noncomputable def z9(a:Cm)(o:CmpOp):Bool:=decide (Rj a=o)
noncomputable def iz:Bi→Str
 | .len=>"len"| .range=>"range"| .bytes=>"bytes"| .bytearray=>"bytearray"| .list=>"list"| .sorted=>"sorted"
noncomputable def JN(NM:Nat→Str):V→Const→Bool
 | .none,.none=>true
 | .bool a,.bool b=>a==b
 | .int a,.int b=>a==b
 | .str n,.str s=>jz NM n s&&decide (n<aO.length)
 |_,_=>false
noncomputable def gO:Expr→Bool
 | .Call _ [] _ _=>false
 |_=>true
noncomputable def o5(sc:Scope)(x:Str):Bool:=sc.names.lookup x==some .globalImplicit
noncomputable def mz(sc:Scope)(x:Str):Bool:=sc.names.lookup x==some .free
noncomputable def qk(NM:Nat→Str)(sc:Scope)(xs:List Nat)(x:Nat):Nat→List (Option Nat)→List (Option Nat)
 |_,[]=>[]
 |i,l::r=>(if i=x then xs[x]? else(match l with|some n=>if mz sc (NM n) then some n else none|none=>none))::qk NM sc xs x (i+1) r
noncomputable def gZ(sc cs:Scope):Bool:=cs.kind== .function&& !cs.isGenerator&&cs.names.all (λy=>y.2 != .cell&&(y.2 != .local||cs.names.lookup y.1==some .local)&&(y.2 != .free||(sc.names.lookup y.1==some .cell&&y.1 != ("__classdict__":Str))))
structure qU where
 NM:Nat→Str
 xs:List Nat
noncomputable def uY{α:Type}(o:Option α)(f:α→Bool):Bool:=match o with|some a=>f a|none=>false
noncomputable def uZ{α:Type}(o:Option α)(b:Bool):Bool:=match o with|some _=>false|none=>b
noncomputable def fH{α:Type}(l:List α)(f:α→List α→Bool):Bool:=match l with|a::r=>f a r| []=>false
noncomputable def gi{α:Type}(l:List α)(b:Bool):Bool:=match l with|_::_=>false| []=>b
noncomputable def v0(i:Int)(b:Bool):Bool:=decide (i=0)&&b
noncomputable def yf(c:Comprehension)(f:Expr→Expr→List Expr→Int→Bool):Bool:=match c with|⟨a,b,c,d⟩=>f a b c d
noncomputable def JO(o:UnaryOp)(b:Bool):Bool:=match o with| .USub=>b|_=>false
noncomputable def NC(o:UnaryOp)(b:Bool):Bool:=match o with| .Not=>b|_=>false
noncomputable def ND(o:BoolOp)(b:Bool):Bool:=match o with| .And=>b|_=>false
noncomputable def Uu(o:BoolOp)(b:Bool):Bool:=match o with| .Or=>b|_=>false
noncomputable def bX(e:Expr)(f:Str→Pos→Bool):Bool:=if h:e.ctorIdx=23 then Expr.Name.elim (motive_1:=λ_=>Bool) e h f else false
noncomputable def eU(e:Expr)(f:Expr→Str→Pos→Bool):Bool:=if h:e.ctorIdx=20 then Expr.Attribute.elim (motive_1:=λ_=>Bool) e h f else false
noncomputable def bY(e:Expr)(f:Expr→Expr→Pos→Bool):Bool:=if h:e.ctorIdx=21 then Expr.Subscript.elim (motive_1:=λ_=>Bool) e h f else false
noncomputable def mC(e:Expr)(f:(Option Expr)→(Option Expr)→(Option Expr)→Pos→Bool):Bool:=if h:e.ctorIdx=26 then Expr.Slice.elim (motive_1:=λ_=>Bool) e h f else false
noncomputable def ni(e:Expr)(f:Expr→(List Expr)→(List Keyword)→Pos→Bool):Bool:=if h:e.ctorIdx=16 then Expr.Call.elim (motive_1:=λ_=>Bool) e h f else false
noncomputable def mD(e:Expr)(f:Const→Nat→Pos→Bool):Bool:=if h:e.ctorIdx=19 then Expr.Constant.elim (motive_1:=λ_=>Bool) e h f else false
noncomputable def sy(e:Expr)(f:Expr→Operator→Expr→Pos→Bool):Bool:=if h:e.ctorIdx=2 then Expr.BinOp.elim (motive_1:=λ_=>Bool) e h f else false
noncomputable def lJ(e:Expr)(f:UnaryOp→Expr→Pos→Bool):Bool:=if h:e.ctorIdx=3 then Expr.UnaryOp.elim (motive_1:=λ_=>Bool) e h f else false
noncomputable def nj(e:Expr)(f:BoolOp→(List Expr)→Pos→Bool):Bool:=if h:e.ctorIdx=0 then Expr.BoolOp.elim (motive_1:=λ_=>Bool) e h f else false
noncomputable def lK(e:Expr)(f:Expr→(List CmpOp)→(List Expr)→Pos→Bool):Bool:=if h:e.ctorIdx=15 then Expr.Compare.elim (motive_1:=λ_=>Bool) e h f else false
noncomputable def sC(e:Expr)(f:Expr→Expr→Expr→Pos→Bool):Bool:=if h:e.ctorIdx=5 then Expr.IfExp.elim (motive_1:=λ_=>Bool) e h f else false
noncomputable def mE(e:Expr)(f:(List Expr)→Nat→Pos→Bool):Bool:=if h:e.ctorIdx=25 then Expr.Tuple.elim (motive_1:=λ_=>Bool) e h f else false
noncomputable def rU(e:Expr)(f:(List Expr)→Pos→Bool):Bool:=if h:e.ctorIdx=24 then Expr.List.elim (motive_1:=λ_=>Bool) e h f else false
noncomputable def wC(e:Expr)(f:(List (Option Expr))→(List Expr)→Pos→Bool):Bool:=if h:e.ctorIdx=6 then Expr.Dict.elim (motive_1:=λ_=>Bool) e h f else false
noncomputable def iR(e:Expr)(f:Expr→(List Comprehension)→Scope→Pos→Bool):Bool:=if h:e.ctorIdx=8 then Expr.ListComp.elim (motive_1:=λ_=>Bool) e h f else false
noncomputable def mF(e:Expr)(f:Expr→Expr→(List Comprehension)→Scope→Pos→Bool):Bool:=if h:e.ctorIdx=10 then Expr.DictComp.elim (motive_1:=λ_=>Bool) e h f else false
noncomputable def fT(e:Stmt)(f:(List Expr)→Expr→Pos→Bool):Bool:=if h:e.ctorIdx=5 then Stmt.Assign.elim (motive_2:=λ_=>Bool) e h f else false
noncomputable def lM(e:Stmt)(f:Expr→Operator→Expr→Pos→Bool):Bool:=if h:e.ctorIdx=7 then Stmt.AugAssign.elim (motive_2:=λ_=>Bool) e h f else false
noncomputable def sD(e:Stmt)(f:Expr→Expr→(List Stmt)→(List Stmt)→Pos→Bool):Bool:=if h:e.ctorIdx=9 then Stmt.For.elim (motive_2:=λ_=>Bool) e h f else false
noncomputable def sF(e:Stmt)(f:Expr→(List Stmt)→(List Stmt)→Pos→Bool):Bool:=if h:e.ctorIdx=11 then Stmt.While.elim (motive_2:=λ_=>Bool) e h f else false
noncomputable def Ej(e:Stmt)(f:Expr→(List Stmt)→(List Stmt)→Pos→Bool):Bool:=if h:e.ctorIdx=12 then Stmt.If.elim (motive_2:=λ_=>Bool) e h f else false
noncomputable def wD(e:Stmt)(f:Expr→Pos→Bool):Bool:=if h:e.ctorIdx=24 then Stmt.Expr.elim (motive_2:=λ_=>Bool) e h f else false
noncomputable def ql(e:Stmt)(f:(Option Expr)→Pos→Bool):Bool:=if h:e.ctorIdx=3 then Stmt.Return.elim (motive_2:=λ_=>Bool) e h f else false
noncomputable def qm(e:Stmt)(f:(List Expr)→Pos→Bool):Bool:=if h:e.ctorIdx=4 then Stmt.Delete.elim (motive_2:=λ_=>Bool) e h f else false
noncomputable def sG(e:Stmt)(f:Pos→Bool):Bool:=if h:e.ctorIdx=26 then Stmt.Break.elim (motive_2:=λ_=>Bool) e h f else false
noncomputable def mG(e:Stmt)(f:Pos→Bool):Bool:=if h:e.ctorIdx=27 then Stmt.Continue.elim (motive_2:=λ_=>Bool) e h f else false
mutual
noncomputable def aJ(W:qU)(sc:Scope)(ls:List (Option Nat)):ME→Expr→Bool
 | .lit v,e=>mD e λc w1 w2=>JN W.NM v c
 | .var i,e=>bX e λx w1=>x != ("__debug__":Str)&&(match ls[i]? with|some (some n)=>jz W.NM n x|_=>false)
 | .glob n v,e=>bX e λx w1=>x != ("__debug__":Str)&&jz W.NM n x&&o5 sc x&&decide ((n,v)∈nh)
 | .attr m n,e=>eU e λo a w1=>jz W.NM n a&&bW.contains n&&gO o&&aJ W sc ls m o
 | .item m i,e=>bY e λo j w1=>aJ W sc ls m o&&aJ W sc ls i j
 | .slice m lo hi,e=>bY e λo y1 w2=>mC y1 λy2 y3 y4 w1=>uY y2 λa=>uY y3 λb=>uZ y4 (aJ W sc ls m o&&aJ W sc ls lo a&&aJ W sc ls hi b)
 | .lH m lo,e=>bY e λo y1 w2=>mC y1 λy2 y3 y4 w1=>uY y2 λa=>uZ y3 (uZ y4 (aJ W sc ls m o&&aJ W sc ls lo a))
 | .j3 m hi,e=>bY e λo y1 w2=>mC y1 λy2 y3 y4 w1=>uZ y2 (uY y3 λb=>uZ y4 (aJ W sc ls m o&&aJ W sc ls hi b))
 | .call f as,e=>ni e λg es y1 w1=>gi y1 ((match g with| .Attribute .. =>false|_=>true)&&aJ W sc ls f g&&jn W sc ls as es)
 | .bH b _ m,e=>ni e λy1 y2 y3 w2=>bX y1 λx w1=>fH y2 λa y4=>gi y4 (gi y3 (x != ("__debug__":Str)&&iz b==x&&o5 sc x&&aJ W sc ls m a))
 | .uI m k,e=>ni e λy1 y2 y3 q=>eU y1 λo a p=>fH y2 λj y4=>gi y4 (gi y3 (a==("get":Str)&&p.endLine==q.line&&gO o&&aJ W sc ls m o&&aJ W sc ls k j))
 | .append m k,e=>ni e λy1 y2 y3 q=>eU y1 λo a p=>fH y2 λj y4=>gi y4 (gi y3 (a==("append":Str)&&p.endLine==q.line&&gO o&&aJ W sc ls m o&&aJ W sc ls k j))
 | .bin op a b,e=>sy e λx o y w1=>CD op o&&aJ W sc ls a x&&aJ W sc ls b y
 | .neg a,e=>lJ e λy1 x w1=>JO y1 (aJ W sc ls a x)
 | .not a,e=>lJ e λy1 x w1=>NC y1 (aJ W sc ls a x)
 | .and es,e=>nj e λy1 xs w1=>ND y1 (jn W sc ls es xs)
 | .or es,e=>nj e λy1 xs w1=>Uu y1 (jn W sc ls es xs)
 | .cmp a op b,e=>lK e λx y1 y2 w1=>fH y1 λo y3=>gi y3 (fH y2 λy y4=>gi y4 (z9 op o&&aJ W sc ls a x&&aJ W sc ls b y))
 | .sj a o1 b o2 c,e=>lK e λx y1 y2 w1=>fH y1 λp1 y3=>fH y3 λp2 y4=>gi y4 (fH y2 λy y5=>fH y5 λz y6=>gi y6 ((match c with| .never=>false|_=>true)&&z9 o1 p1&&z9 o2 p2&&aJ W sc ls a x&&aJ W sc ls b y&&aJ W sc ls c z))
 | .ite t a b,e=>sC e λx y z w1=>aJ W sc ls t x&&aJ W sc ls a y&&aJ W sc ls b z
 | .tup es,e=>mE e λxs w1 w2=>decide (es.length≤100)&&jn W sc ls es xs
 | .lst es,e=>rU e λxs w1=>decide (es.length≤100)&&jn W sc ls es xs
 | .cell es,e=>rU e λxs w1=>decide (es.length≤100)&&jn W sc ls es xs
 | .dict es,e=>wC e λks vs w1=>decide (ks.length≤15)&&yg W sc ls es ks vs
 | .nX m x it,e=>iR e λy y1 cs w2=>fH y1 λy2 y3=>yf y2 λy4 j y5 y6=>bX y4 λt w1=>gi y5 (v0 y6 (gi y3 ((match W.xs[x]? with|some n=>jz W.NM n t|_=>false)&&gZ sc cs&&cs.names.lookup t==some .local&&aJ W sc ls it j&&aJ W cs (qk W.NM cs W.xs x 0 ls) m y)))
 | .o4 it,e=>iR e λw1 y1 cs w4=>fH y1 λy2 y3=>yf y2 λy4 j w3 y5=>bX y4 λt w2=>v0 y5 (gi y3 (gZ sc cs&&cs.names.lookup t==some .local&&aJ W sc ls it j))
 | .never,_=>true
noncomputable def jn(W:qU)(sc:Scope)(ls:List (Option Nat)):List ME→List Expr→Bool
 | [],es=>match es with| []=>true|_=>false
 |m::r,es=>match es with|e::q=>(match e with| .Starred .. =>false|_=>true)&&aJ W sc ls m e&&jn W sc ls r q| []=>false
noncomputable def yg(W:qU)(sc:Scope)(ls:List (Option Nat)):List ME→List (Option Expr)→List Expr→Bool
 | [],ks,vs=>match ks,vs with| [],[]=>true|_,_=>false
 | [_],_,_=>false
 |a::b::r,ks,vs=>match ks,vs with|some k::ks,v::vs=>aJ W sc ls a k&&aJ W sc ls b v&&yg W sc ls r ks vs|_,_=>false
end
section
variable {X:Ctx} {n:Nat} {xs:List Nat} {mg mb:Str→Option Value}
theorem sH:nh.all (λy=>match y.2 with| .int _=>true| .fn _=>true| .cl _=>true|_=>false)=true:=rfl
end
noncomputable def eZ(W:qU)(sc:Scope)(ls:List (Option Nat))(x:Nat)(t:Str):Bool:=(match ls[x]? with|some (some n)=>jz W.NM n t|_=>false)&&sc.names.lookup t==some .local
noncomputable def ow:Expr→Bool
 | .ListComp .. | .SetComp .. | .DictComp .. =>false
 |_=>true
noncomputable def jA(W:qU)(sc:Scope)(ls:List (Option Nat)):List Nat→List Expr→Bool
 | [],es=>es.isEmpty
 |y::r,es=>match es with| .Name t _::q=>eZ W sc ls y t&& !(r.contains y)&&jA W sc ls r q|_=>false
noncomputable def Aa(value:Expr):Bool:=match value with
 | .Tuple vs _ _=>vs.all (foldedForSure 8)|| !(vs.all (constantsAlone 8))
 |_=>true
noncomputable def u0(W:qU)(cs:Scope)(ls:List (Option Nat))(d:Nat)(t:Str):Bool:=(match ls[d]? with|some (some n)=>jz W.NM n t|_=>false)&&mz cs t&&t != ("__debug__":Str)&&t != ("__classdict__":Str)
noncomputable def qV(W:qU)(sc:Scope)(ls:List (Option Nat))(d:Nat)(t:Str):Bool:=eZ W sc ls d t&&t != ("__debug__":Str)
mutual
noncomputable def j4(W:qU)(sc:Scope)(ls:List (Option Nat)):MS→Stmt→Bool
 | .assign x e,st=>fT st λy1 v w2=>fH y1 λy2 y3=>bX y2 λt w1=>gi y3 (eZ W sc ls x t&&ow v&&aJ W sc ls e v)
 | .jQ x d k it,st=>fT st λy1 y2 p2=>fH y1 λy3 y4=>bX y3 λt p0=>gi y4 (iR y2 λy5 y6 cs p1=>bY y5 λy7 y8 w3=>bX y7 λdn w1=>bX y8 λkn w2=>fH y6 λy9 JP=>yf y9 λJQ j JR JS=>bX JQ λkt w4=>gi JR (v0 JS (gi JP (eZ W sc ls x t&&gZ sc cs&&cs.names.lookup kt==some .local&&kn==kt&&kn != ("__debug__":Str)&&t != kt&&p0.line==p1.line&&p2.line==p1.line&& !(cs.names.any λy=>y.1==t&&(y.2== .local||y.2== .cell))&&u0 W cs ls d dn&&aJ W sc ls it j))))
 | .jR x d k it,st=>fT st λy1 y2 p2=>fH y1 λy3 y4=>bX y3 λt p0=>gi y4 (mF y2 λy5 y6 y7 cs p1=>bX y5 λHH w1=>bY y6 λy8 y9 w4=>bX y8 λdn w2=>bX y9 λkn w3=>fH y7 λJP JQ=>yf JP λJR j JS NF=>bX JR λkt w5=>gi JS (v0 NF (gi JQ (eZ W sc ls x t&&gZ sc cs&&cs.names.lookup kt==some .local&&kn==kt&&HH==kt&&kn != ("__debug__":Str)&&t != kt&&p0.line==p1.line&&p2.line==p1.line&& !(cs.names.any λy=>y.1==t&&(y.2== .local||y.2== .cell))&&u0 W cs ls d dn&&aJ W sc ls it j))))
 | .sq x b n g,st=>sD st λy1 y2 y3 y4 Rk=>bX y1 λt w1=>bX y2 λg1 w2=>fH y3 λy5 y6=>fT y5 λy7 y8 Rl=>fH y7 λy9 JP=>bY y9 λJQ JR w6=>eU JQ λJS a w4=>bX JS λb1 w3=>bX JR λt2 w5=>gi JP (bY y8 λNF Uv w9=>bX NF λg2 w7=>bX Uv λt3 w8=>gi y6 (gi y4 (eZ W sc ls x t&&t2==t&&t3==t&&g2==g1&&t != ("__debug__":Str)&&qV W sc ls b b1&&qV W sc ls g g1&&jz W.NM n a&&bW.contains n&&x != b&&x != g)))
 | .setattr o n e,st=>fT st λy1 v w2=>fH y1 λy2 y3=>eU y2 λb a w1=>gi y3 (jz W.NM n a&&bW.contains n&&aJ W sc ls o b&&aJ W sc ls e v)
 | .aS o k e,st=>fT st λy1 v w2=>fH y1 λy2 y3=>bY y2 λb i w1=>gi y3 (aJ W sc ls o b&&aJ W sc ls k i&&aJ W sc ls e v)
 | .unpack ys e,st=>fT st λy1 v w3=>fH y1 λy2 y3=>mE y2 λelts w1 w2=>gi y3 (jA W sc ls ys elts&&Aa v&&ow v&&aJ W sc ls e v)
 | .aug x op e,st=>lM st λy1 o v w2=>bX y1 λt w1=>eZ W sc ls x t&&CD op o&&aJ W sc ls e v
 | .expr e,st=>wD st λv w1=>ow v&&aJ W sc ls e v
 | .ret e,st=>ql st λy1 w1=>uY y1 λv=>aJ W sc ls e v
 | .ite t a b,st=>Ej st λc x y w1=>aJ W sc ls t c&&jM W sc ls a x&&jM W sc ls b y
 | .while t b,st=>sF st λc x y1 w1=>gi y1 (aJ W sc ls t c&&jM W sc ls b x)
 | .for x it b,st=>sD st λy1 j body y2 w2=>bX y1 λt w1=>gi y2 (eZ W sc ls x t&&aJ W sc ls it j&&jM W sc ls b body)
 | .wz ys it b,st=>sD st λy1 j body y2 w3=>mE y1 λelts w1 w2=>gi y2 (jA W sc ls ys elts&&aJ W sc ls it j&&jM W sc ls b body)
 | .brk,st=>sG st λw1=>true
 | .cont,st=>mG st λw1=>true
 | .jm o k,st=>qm st λy1 w2=>fH y1 λy2 y3=>bY y2 λb i w1=>gi y3 (aJ W sc ls o b&&aJ W sc ls k i)
 | .never,_=>true
noncomputable def jM(W:qU)(sc:Scope)(ls:List (Option Nat)):List MS→List Stmt→Bool
 | [],q=>q.isEmpty
 |m::r,q=>match q with|st::q=>j4 W sc ls m st&&jM W sc ls r q| []=>false
end
noncomputable def wF:List Nat→Bool
 | []=>true
 |a::r=> !(r.contains a)&&wF r
noncomputable def BF:Value→Bool
 | .bytes b _=>b.isEmpty
 |_=>false
noncomputable def Ek(NM:Nat→Str)(v:V)(y:Value):Bool:=match v with
 | .int i=>y.isInt i
 | .str n=>y.isStr (NM n)&&decide (n<aO.length)
 | .bytes l=>l.isEmpty&&BF y
 |_=>false
noncomputable def o6(NM:Nat→Str):List V→List Value→Bool
 | [],q=>q.isEmpty
 |v::r,x::q=>Ek NM v x&&o6 NM r q
 |_,[]=>false
noncomputable def wG(l m:List Nat):Bool:=decide (m.take l.length=l)
noncomputable def El:Data→Option FuncData
 | .func fd=>some fd
 |_=>none
noncomputable def JT:Data→Option (Array Value)
 | .seq az _=>some az
 |_=>none
noncomputable def refOf:Value→Option Addr
 | .ref a=>some a
 |_=>none
noncomputable def NH(K:Frag)(dv:Value):Option (Array Value):=(refOf dv).bind λT=>(K.lookup T).bind λo=>JT o.data
noncomputable def wH(NM:Nat→Str)(K:Frag)(vs:List V)(dv:Value):Bool:=match vs with
 | []=>decide (dv=.none)
 |v::r=>(NH K dv).elim false λaz=>o6 NM (v::r) az.toList
noncomputable def wI:FuncBody→Option (List Stmt)
 | .stmts b=>some b
 |_=>none
noncomputable def Uw(o:Option NameKind):Bool:=decide (o=some .local)||decide (o=some .cell)
noncomputable def NI(NM:Nat→Str)(K:Frag)(d:FD)(fd:FuncData):Bool:=
 fd.params.posonlyargs.isEmpty&&fd.params.kwonlyargs.isEmpty&&fd.params.vararg.isNone&&fd.params.kwarg.isNone&&(fd.params.args.map (·.arg)==d.args.map NM)&&
 decide (fd.scope.kind=.function)&& !fd.scope.isCoroutine&& !fd.scope.isGenerator&&fd.closure.isEmpty&&decide (fd.globals=mainGlobals)&&decide (fd.builtins=builtinsNs)&&codeIn K fd.code fd.qualname&&
 (wI fd.body).elim false (λbody=>jM ⟨NM,d.locals⟩ fd.scope (d.locals.map some) d.body body)&&
 wG d.args d.locals&&wF d.locals&&wF d.args&&d.locals.all (λn=>decide (n<aO.length))&&d.args.all (λn=>decide (n<aO.length))&&
 d.args.all (λn=>Uw (fd.scope.names.lookup (NM n)))&&wH NM K d.jT fd.defaults&&decide (d.jT.length≤d.args.length)
noncomputable def jB(NM:Nat→Str)(K:Frag)(a:Addr)(d:FD):Bool:=(K.lookup a).elim false λo=>(El o.data).elim false (NI NM K d)
end Mine
namespace Mine.Top
open PySem PySem.W PySem.Calls PyProof.Rows
noncomputable section
noncomputable def yh(t:BT):Nat→Option Obj:=BT.rec (motive:=λ_=>Nat→Option Obj) (λ_=>none) (λv _ _ gl gr i=>Nat.rec (motive:=λ_=>Option Obj) (some v) (λ_ _=>Nat.rec (motive:=λ_=>Option Obj) (gr (Nat.sub (Nat.div i 2) 1)) (λ_ _=>gl (Nat.div i 2)) (Nat.mod i 2)) i) t
noncomputable def CE(t:BT)(a:Nat)(f:Obj→Obj):BT:=BT.rec (motive:=λ_=>Nat→BT) (λ_=> .nil) (λv l r sl sr i=>Nat.rec (motive:=λ_=>BT) (.node (f v) l r) (λ_ _=>Nat.rec (motive:=λ_=>BT) (.node v l (sr (Nat.sub (Nat.div i 2) 1))) (λ_ _=> .node v (sl (Nat.div i 2)) r) (Nat.mod i 2)) i) t a
noncomputable def Ab(t:BT)(a:Nat)(o:Obj):BT:=BT.rec (motive:=λ_=>Nat→BT) (λ_=> .node o .nil .nil) (λv l r sl sr i=>Nat.rec (motive:=λ_=>BT) (.node o l r) (λ_ _=>Nat.rec (motive:=λ_=>BT) (.node v l (sr (Nat.sub (Nat.div i 2) 1))) (λ_ _=> .node v (sl (Nat.div i 2)) r) (Nat.mod i 2)) i) t a
noncomputable def JU(gt:BT→Nat→Option Obj)(st:BT→Nat→(Obj→Obj)→BT)(is:BT→Nat→Obj→BT)(den:Code→Sem Fin)(p:Program)(w:World):SharedT→Thread→Option (SharedT × Thread)
 |⟨T,n,life,gens,drawn,toks,os⟩,⟨cur,code,pos,stack⟩=>match cur with
  | .load a _ k=>match Nat.blt a n with
   |true=>match gt T a with
    |some o=>match alive o with
     |some o'=>some (⟨T,n,life,gens,drawn,toks,os⟩,⟨k o',code,pos,stack⟩)
     |none=>none
    |none=>none
   |false=>none
  | .update a _ f k=>match Nat.blt a n with
   |true=>match gt T a with
    |some o=>match alive o with
     |some _=>some (⟨st T a f,n,life,gens,drawn,toks,os⟩,⟨k (),code,pos,stack⟩)
     |none=>none
    |none=>none
   |false=>none
  | .alloc o k=>match(gt (is T n o) n).isSome with
   |true=>some (⟨is T n o,n+1,life,gens,drawn,toks,os⟩,⟨k n,code,pos,stack⟩)
   |false=>none
  | .loadIfAlive a k=>match Nat.blt a n with
   |true=>match gt T a with
    |some o=>some (⟨T,n,life,gens,drawn,toks,os⟩,⟨k (alive o),code,pos,stack⟩)
    |none=>none
   |false=>some (⟨T,n,life,gens,drawn,toks,os⟩,⟨k none,code,pos,stack⟩)
  |c=>match step den p w ⟨{},gens,drawn,toks,os⟩ ⟨c,code,pos,stack⟩ with
   | .go s' t'=>some (⟨T,n,life,s'.gens,s'.drawn,s'.toks,s'.os⟩,t')
   | .halt _ _=>none
noncomputable def Em:=JU yh CE λT n o=>Ab T n o
noncomputable def JV(g:Nat→Obj)(n:Nat):Nat→List Obj:=Nat.rec (motive:=λ_=>Nat→List Obj) (λ_=>[]) (λ_ ih i=>g i::ih (Nat.succ i)) n
noncomputable def HJ(t:BT)(i:Nat):Obj:=Option.rec (motive:=λ_=>Obj) default (λo=>o) (yh t i)
noncomputable def iu(s:SharedT):Shared:=⟨⟨⟨JV (HJ s.tree) s.n 0⟩,s.life⟩,s.gens,s.drawn,s.toks,s.os⟩
noncomputable def Qu(s:SharedT)(a:Nat):Option (Addr × Obj):=match Nat.blt a s.n with
 |true=>match yh s.tree a with
  |some o=>match alive o with
   |some o'=>some (a,o')
   |none=>none
  |none=>none
 |false=>none
noncomputable def yi(s:SharedT)(as:List Nat):Frag:=as.filterMap (Qu s)
section
variable (tb:String→Option Builtin) (p:Program) (w:World) (n₀:Nat) (ann:Option Value)
noncomputable def CF:Nat→SharedT→Thread→Option SharedT
 |0,_,_=>none
 |n+1,s,t=>match through t with
  |true=>some s
  |false=>match stepOk n₀ ann t with
   |false=>none
   |true=>match Em (denote tb) p w s t with
    |some (s',t')=>CF n s' t'
    |none=>none
end
noncomputable def Ac:BT→Nat→List Obj→BT
 |t,_,[]=>t
 |t,n,o::r=>Ac (Ab t n o) (n+1) r
noncomputable def BG(w:World)(os:OsState):SharedT:=⟨Ac .nil 0 (boot_heap w.params).objs.toList,(boot_heap w.params).objs.toList.length,(boot_heap w.params).life, #[],boot_drawn,boot_toks,os⟩
end
end Mine.Top
namespace Mine
open PySem PySem.W PySem.Calls PyProof.Rows
noncomputable def NJ:List Nat:=[53,60,67,74,81,88,95,109,123,131,138,145,152,159,166,173,187,209,223,230,237,244,251,258,265,272,279,284,291,298,305,312,319,326,333,340,347,354,361,368,375,382,389,396,403,410,417,424,431,438,445,453,460,475,489,494,501,508,515,522,529,536,543,548,555,560,567,574]
noncomputable def FA(f:Nat):Addr:=(NJ[f]?).getD 0
noncomputable def CA(c:Nat):Addr:=if c=7 then 112 else if c=16 then 190 else if c=17 then 212 else 478
noncomputable def NM(n:Nat):Str:=Str.ofString ((aO[n]?).getD "")
noncomputable def En:Data→Array DictEntry
 | .dict es _=>es
 |_=> #[]
noncomputable def oz(K:Frag):Array DictEntry:=(K.lookup mainGlobals).elim #[] λo=>En o.data
noncomputable def Eo(o:Option Value):V→Bool
 | .int j=>o.elim false λy=>y.isInt j
 | .fn f=>decide (o=some (.ref (FA f)))
 | .cl c=>decide (o=some (.ref (CA c)))&&lI.contains c
 |_=>false
noncomputable def NK(K:Frag)(c:Nat):Bool:=
 decide (findIn K (.ref (CA c)) "__getattribute__"=some (some (.builtin "object.__getattribute__")))&&decide (findIn K (.ref (CA c)) "__setattr__"=some (some (.builtin "object.__setattr__")))&&hasDictIn K (CA c)&&plainOver K (CA c)&&makesIn K (CA c)&&
 decide (findIn K (.ref (CA c)) "__init__"=some (some (.ref (FA c))))&&decide (typeIn K (.ref (FA c))=some (.type "function"))&&keepIn K (.ref (CA c))&&bW.all λa=>decide (findIn K (.ref (CA c)) (NM a)=some none)
noncomputable def Ux(K:Frag)(f:Nat):Bool:=(fns[f]?).elim true (jB NM K (FA f))&&keepIn K (.ref (FA f))
noncomputable def WV(K:Frag)(c:Bi):Bool:=(nsFind (oz K) (iz c)).isNone
noncomputable def JW(K:Frag)(y:Nat × V):Bool:=Eo (nsFind (oz K) (NM y.1)) y.2
noncomputable def Rm(K:Frag):Bool:=decide (nsFind (oz K) (Str.ofString "law")=some (.ref (FA 67)))
noncomputable def qo(K:Frag):Bool:=(List.range 68).all (Ux K)&&lI.all (NK K)&&nh.all (JW K)&&[Bi.len,.range,.bytes,.bytearray,.list,.sorted].all (WV K)&&Rm K
end Mine
namespace Mine.Top
open _root_.PySem _root_.PySem.W _root_.PySem.Calls PyProof.Rows
noncomputable def NN:List Nat:=[1,2,4,6,8,9,10,11,13,14,15,17,18,19,20,21,23,25,26,27,28,29,30,31,32,33,34,35,36,37,38,40,41,42,43,44,45,46,47,48,49,50,51,52,53,54,55,56,57,58,59,60,61,62,63,65,66,67,68,69,70,71,72,74,76,78,79,80,81,82,83,84,85,86,87,88,89,90,91]
noncomputable def Qv:List Nat:=[3,111,112,189,190,211,212,477,478,52,53,59,60,66,67,73,74,80,81,87,88,94,95,108,109,122,123,124,130,131,137,138,144,145,151,152,158,159,165,166,172,173,186,187,202,208,209,222,223,229,230,236,237,243,244,250,251,257,258,264,265,271,272,278,279,283,284,290,291,297,298,304,305,311,312,318,319,325,326,332,333,339,340,346,347,353,354,360,361,367,368,374,375,381,382,388,389,395,396,402,403,409,410,416,417,423,424,430,431,437,438,444,445,446,452,453,459,460,468,474,475,488,489,493,494,500,501,507,508,514,515,521,522,528,529,535,536,542,543,547,548,554,555,559,560,566,567,573,574]
noncomputable abbrev lw:Program:=PySem.Challenge.rw_pq1101_01.row.prog
noncomputable def qv:Program:=view lw NN
noncomputable def lN:List Str:=[Str.ofString "packet_of",Str.ofString "track"]
noncomputable def xt(s:Shared):Bool:=xlAt qv [] s&&recOk PySem.Challenge.rw_pq1101_01.row.records s
theorem op:∀w:World,(fencedOpening treeTable lw w 7436).map (λs=>(s.heap,s.gens,s.drawn,s.toks))=some (boot_heap w.params, #[],boot_drawn,boot_toks):=boot_open (by kernel_rfl) (by kernel_rfl) (λs=>by kernel_rfl)
noncomputable abbrev fin(w:World)(os:OsState):Option SharedT:=CF treeTable lw w 11 (some (.ref 6)) 7436 (BG w os) (topStub lw)
theorem Rn{k a b c d e f:Bool}(hk:k=true)(h:(a&&b&&c&&d&&e&&f)=true):(k&&a&&b&&c&&d&&e&&f)=true:=by subst hk;exact h
theorem Uy:∀(w:World)(os:OsState),(fin w os).map (λs=>((staticsOk (importedModules lw.main.body) (boot_heap w.params) (iu s).heap&&namesBound lw (iu s).heap&&gensDone (iu s)&&laidKept (boot_heap w.params) (iu s).heap),((iu s).heap.bltView,pinSeenD qv (drecsOf qv) (iu s),plainSeenD qv lN (iu s),clsSeenW qv lN (iu s)),(iu s).heap.accountedOkI (importedModules lw.main.body)&&(iu s).heap.isNs mainGlobals&&(iu s).heap.isNs builtinsNs&&tablesOk qv (iu s).heap&&xt (iu s)&&(if true then(iu s).gens.size==0 else !leftWithCleanup (iu s).gens)))=some (true,(bltViewBooted,pinGoodD (drecsOf qv),plainGoodD qv lN,clsGoodW qv lN),true):=λw os=>by kernel_rfl
theorem WW:∀(w:World)(os:OsState),(fin w os).map (λs=>seen ((recsOf qv).map (·.name)) (ownsOf qv) [] {iu s with gens:= #[]})=some (expectedOf qv):=λw os=>by kernel_rfl
theorem WX:∀(w:World)(os:OsState),(fin w os).map (λs=>tabsOk qv (iu s))=some true:=λw os=>by kernel_rfl
theorem WY:∀(w:World)(os:OsState),(fin w os).map (λs=>(iu s).heap.keysOk (looseW qv lN) ((recsOf qv).map (·.name)) ((litsOf qv).map (·.1)) ((clssOf qv (looseW qv lN)).map (·.name)))=some true:=λw os=>by kernel_rfl
theorem WZ:∀(w:World)(os:OsState),(fin w os).map (λs=>(plainSeenE qv (looseW qv lN) (iu s),wideSeen qv (iu s)))=some (plainGoodE qv (looseW qv lN),wideGood qv):=λw os=>by kernel_rfl
theorem W0:∀(w:World)(os:OsState),(fin w os).map (λs=>qo (yi s Qv))=some true:=λw os=>by kernel_rfl
end Mine.Top
namespace Mine
theorem dY{P:Prop}(h:∀G:Prop,(P→G)→G):P:=h P id
theorem dF{P1:Prop}{P2:Prop}{G:Prop}(h:P1∧P2)(k:P1→P2→G):G:=k h.1 h.2
theorem gj{P1:Prop}{P2:Prop}{P3:Prop}{G:Prop}(h:P1∧P2∧P3)(k:P1→P2→P3→G):G:=k h.1 h.2.1 h.2.2
theorem sJ{P1:Prop}{P2:Prop}{P3:Prop}{P4:Prop}{G:Prop}(h:P1∧P2∧P3∧P4)(k:P1→P2→P3→P4→G):G:=k h.1 h.2.1 h.2.2.1 h.2.2.2
theorem CG{P1:Prop}{P2:Prop}{P3:Prop}{P4:Prop}{P5:Prop}{G:Prop}(h:P1∧P2∧P3∧P4∧P5)(k:P1→P2→P3→P4→P5→G):G:=k h.1 h.2.1 h.2.2.1 h.2.2.2.1 h.2.2.2.2
theorem Ep{P1:Prop}{P2:Prop}{P3:Prop}{P4:Prop}{P5:Prop}{P6:Prop}{P7:Prop}{G:Prop}(h:P1∧P2∧P3∧P4∧P5∧P6∧P7)(k:P1→P2→P3→P4→P5→P6→P7→G):G:=k h.1 h.2.1 h.2.2.1 h.2.2.2.1 h.2.2.2.2.1 h.2.2.2.2.2.1 h.2.2.2.2.2.2
theorem bK{α1:Sort _}{P1:α1→Prop}{G:Prop}(h:∃a1,P1 a1)(k:∀a1,P1 a1→G):G:=bJ h λa1 h=>k a1 h
theorem aA{α1:Sort _}{P1:α1→Prop}{P2:α1→Prop}{G:Prop}(h:∃a1,P1 a1∧P2 a1)(k:∀a1,P1 a1→P2 a1→G):G:=bJ h λa1 h=>k a1 h.1 h.2
theorem gC{α1:Sort _}{P1:α1→Prop}{P2:α1→Prop}{P3:α1→Prop}{G:Prop}(h:∃a1,P1 a1∧P2 a1∧P3 a1)(k:∀a1,P1 a1→P2 a1→P3 a1→G):G:=bJ h λa1 h=>k a1 h.1 h.2.1 h.2.2
theorem NP{α1:Sort _}{P1:α1→Prop}{P2:α1→Prop}{P3:α1→Prop}{P4:α1→Prop}{G:Prop}(h:∃a1,P1 a1∧P2 a1∧P3 a1∧P4 a1)(k:∀a1,P1 a1→P2 a1→P3 a1→P4 a1→G):G:=bJ h λa1 h=>k a1 h.1 h.2.1 h.2.2.1 h.2.2.2
theorem KU{α1:Sort _}{P1:α1→Prop}{P2:α1→Prop}{P3:α1→Prop}{P4:α1→Prop}{P5:α1→Prop}{P6:α1→Prop}{G:Prop}(h:∃a1,P1 a1∧P2 a1∧P3 a1∧P4 a1∧P5 a1∧P6 a1)(k:∀a1,P1 a1→P2 a1→P3 a1→P4 a1→P5 a1→P6 a1→G):G:=bJ h λa1 h=>k a1 h.1 h.2.1 h.2.2.1 h.2.2.2.1 h.2.2.2.2.1 h.2.2.2.2.2
theorem jo{α1 α2:Sort _}{P1:α1→α2→Prop}{G:Prop}(h:∃a1 a2,P1 a1 a2)(k:∀a1 a2,P1 a1 a2→G):G:=bJ h λa1 h=>bJ h λa2 h=>k a1 a2 h
theorem oA{α1 α2:Sort _}{P1:α1→α2→Prop}{P2:α1→α2→Prop}{G:Prop}(h:∃a1 a2,P1 a1 a2∧P2 a1 a2)(k:∀a1 a2,P1 a1 a2→P2 a1 a2→G):G:=bJ h λa1 h=>bJ h λa2 h=>k a1 a2 h.1 h.2
theorem fj{α1 α2:Sort _}{P1:α1→α2→Prop}{P2:α1→α2→Prop}{P3:α1→α2→Prop}{G:Prop}(h:∃a1 a2,P1 a1 a2∧P2 a1 a2∧P3 a1 a2)(k:∀a1 a2,P1 a1 a2→P2 a1 a2→P3 a1 a2→G):G:=bJ h λa1 h=>bJ h λa2 h=>k a1 a2 h.1 h.2.1 h.2.2
theorem nP{α1 α2:Sort _}{P1:α1→α2→Prop}{P2:α1→α2→Prop}{P3:α1→α2→Prop}{P4:α1→α2→Prop}{G:Prop}(h:∃a1 a2,P1 a1 a2∧P2 a1 a2∧P3 a1 a2∧P4 a1 a2)(k:∀a1 a2,P1 a1 a2→P2 a1 a2→P3 a1 a2→P4 a1 a2→G):G:=bJ h λa1 h=>bJ h λa2 h=>k a1 a2 h.1 h.2.1 h.2.2.1 h.2.2.2
theorem HK{α1 α2:Sort _}{P1:α1→α2→Prop}{P2:α1→α2→Prop}{P3:α1→α2→Prop}{P4:α1→α2→Prop}{P5:α1→α2→Prop}{G:Prop}(h:∃a1 a2,P1 a1 a2∧P2 a1 a2∧P3 a1 a2∧P4 a1 a2∧P5 a1 a2)(k:∀a1 a2,P1 a1 a2→P2 a1 a2→P3 a1 a2→P4 a1 a2→P5 a1 a2→G):G:=bJ h λa1 h=>bJ h λa2 h=>k a1 a2 h.1 h.2.1 h.2.2.1 h.2.2.2.1 h.2.2.2.2
theorem NQ{α1 α2 α3:Sort _}{P1:α1→α2→α3→Prop}{G:Prop}(h:∃a1 a2 a3,P1 a1 a2 a3)(k:∀a1 a2 a3,P1 a1 a2 a3→G):G:=bJ h λa1 h=>bJ h λa2 h=>bJ h λa3 h=>k a1 a2 a3 h
theorem HL{α1 α2 α3:Sort _}{P1:α1→α2→α3→Prop}{P2:α1→α2→α3→Prop}{G:Prop}(h:∃a1 a2 a3,P1 a1 a2 a3∧P2 a1 a2 a3)(k:∀a1 a2 a3,P1 a1 a2 a3→P2 a1 a2 a3→G):G:=bJ h λa1 h=>bJ h λa2 h=>bJ h λa3 h=>k a1 a2 a3 h.1 h.2
theorem KV{α1 α2 α3:Sort _}{P1:α1→α2→α3→Prop}{P2:α1→α2→α3→Prop}{P3:α1→α2→α3→Prop}{G:Prop}(h:∃a1 a2 a3,P1 a1 a2 a3∧P2 a1 a2 a3∧P3 a1 a2 a3)(k:∀a1 a2 a3,P1 a1 a2 a3→P2 a1 a2 a3→P3 a1 a2 a3→G):G:=bJ h λa1 h=>bJ h λa2 h=>bJ h λa3 h=>k a1 a2 a3 h.1 h.2.1 h.2.2
theorem jN{α1 α2 α3:Sort _}{P1:α1→α2→α3→Prop}{P2:α1→α2→α3→Prop}{P3:α1→α2→α3→Prop}{P4:α1→α2→α3→Prop}{G:Prop}(h:∃a1 a2 a3,P1 a1 a2 a3∧P2 a1 a2 a3∧P3 a1 a2 a3∧P4 a1 a2 a3)(k:∀a1 a2 a3,P1 a1 a2 a3→P2 a1 a2 a3→P3 a1 a2 a3→P4 a1 a2 a3→G):G:=bJ h λa1 h=>bJ h λa2 h=>bJ h λa3 h=>k a1 a2 a3 h.1 h.2.1 h.2.2.1 h.2.2.2
theorem KW{α1 α2 α3:Sort _}{P1:α1→α2→α3→Prop}{P2:α1→α2→α3→Prop}{P3:α1→α2→α3→Prop}{P4:α1→α2→α3→Prop}{P5:α1→α2→α3→Prop}{G:Prop}(h:∃a1 a2 a3,P1 a1 a2 a3∧P2 a1 a2 a3∧P3 a1 a2 a3∧P4 a1 a2 a3∧P5 a1 a2 a3)(k:∀a1 a2 a3,P1 a1 a2 a3→P2 a1 a2 a3→P3 a1 a2 a3→P4 a1 a2 a3→P5 a1 a2 a3→G):G:=bJ h λa1 h=>bJ h λa2 h=>bJ h λa3 h=>k a1 a2 a3 h.1 h.2.1 h.2.2.1 h.2.2.2.1 h.2.2.2.2
theorem Er{α1 α2 α3:Sort _}{P1:α1→α2→α3→Prop}{P2:α1→α2→α3→Prop}{P3:α1→α2→α3→Prop}{P4:α1→α2→α3→Prop}{P5:α1→α2→α3→Prop}{P6:α1→α2→α3→Prop}{G:Prop}(h:∃a1 a2 a3,P1 a1 a2 a3∧P2 a1 a2 a3∧P3 a1 a2 a3∧P4 a1 a2 a3∧P5 a1 a2 a3∧P6 a1 a2 a3)(k:∀a1 a2 a3,P1 a1 a2 a3→P2 a1 a2 a3→P3 a1 a2 a3→P4 a1 a2 a3→P5 a1 a2 a3→P6 a1 a2 a3→G):G:=bJ h λa1 h=>bJ h λa2 h=>bJ h λa3 h=>k a1 a2 a3 h.1 h.2.1 h.2.2.1 h.2.2.2.1 h.2.2.2.2.1 h.2.2.2.2.2
theorem Ro{α1 α2 α3:Sort _}{P1:α1→α2→α3→Prop}{P2:α1→α2→α3→Prop}{P3:α1→α2→α3→Prop}{P4:α1→α2→α3→Prop}{P5:α1→α2→α3→Prop}{P6:α1→α2→α3→Prop}{P7:α1→α2→α3→Prop}{P8:α1→α2→α3→Prop}{G:Prop}(h:∃a1 a2 a3,P1 a1 a2 a3∧P2 a1 a2 a3∧P3 a1 a2 a3∧P4 a1 a2 a3∧P5 a1 a2 a3∧P6 a1 a2 a3∧P7 a1 a2 a3∧P8 a1 a2 a3)(k:∀a1 a2 a3,P1 a1 a2 a3→P2 a1 a2 a3→P3 a1 a2 a3→P4 a1 a2 a3→P5 a1 a2 a3→P6 a1 a2 a3→P7 a1 a2 a3→P8 a1 a2 a3→G):G:=bJ h λa1 h=>bJ h λa2 h=>bJ h λa3 h=>k a1 a2 a3 h.1 h.2.1 h.2.2.1 h.2.2.2.1 h.2.2.2.2.1 h.2.2.2.2.2.1 h.2.2.2.2.2.2.1 h.2.2.2.2.2.2.2
theorem NR{α1 α2 α3 j5:Sort _}{P1:α1→α2→α3→j5→Prop}{P2:α1→α2→α3→j5→Prop}{G:Prop}(h:∃a1 a2 a3 a4,P1 a1 a2 a3 a4∧P2 a1 a2 a3 a4)(k:∀a1 a2 a3 a4,P1 a1 a2 a3 a4→P2 a1 a2 a3 a4→G):G:=bJ h λa1 h=>bJ h λa2 h=>bJ h λa3 h=>bJ h λa4 h=>k a1 a2 a3 a4 h.1 h.2
theorem Rp{α1 α2 α3 j5:Sort _}{P1:α1→α2→α3→j5→Prop}{P2:α1→α2→α3→j5→Prop}{P3:α1→α2→α3→j5→Prop}{G:Prop}(h:∃a1 a2 a3 a4,P1 a1 a2 a3 a4∧P2 a1 a2 a3 a4∧P3 a1 a2 a3 a4)(k:∀a1 a2 a3 a4,P1 a1 a2 a3 a4→P2 a1 a2 a3 a4→P3 a1 a2 a3 a4→G):G:=bJ h λa1 h=>bJ h λa2 h=>bJ h λa3 h=>bJ h λa4 h=>k a1 a2 a3 a4 h.1 h.2.1 h.2.2
theorem NT{α1 α2 α3 j5:Sort _}{P1:α1→α2→α3→j5→Prop}{P2:α1→α2→α3→j5→Prop}{P3:α1→α2→α3→j5→Prop}{P4:α1→α2→α3→j5→Prop}{G:Prop}(h:∃a1 a2 a3 a4,P1 a1 a2 a3 a4∧P2 a1 a2 a3 a4∧P3 a1 a2 a3 a4∧P4 a1 a2 a3 a4)(k:∀a1 a2 a3 a4,P1 a1 a2 a3 a4→P2 a1 a2 a3 a4→P3 a1 a2 a3 a4→P4 a1 a2 a3 a4→G):G:=bJ h λa1 h=>bJ h λa2 h=>bJ h λa3 h=>bJ h λa4 h=>k a1 a2 a3 a4 h.1 h.2.1 h.2.2.1 h.2.2.2
theorem Es{α1 α2 α3 j5:Sort _}{P1:α1→α2→α3→j5→Prop}{P2:α1→α2→α3→j5→Prop}{P3:α1→α2→α3→j5→Prop}{P4:α1→α2→α3→j5→Prop}{P5:α1→α2→α3→j5→Prop}{G:Prop}(h:∃a1 a2 a3 a4,P1 a1 a2 a3 a4∧P2 a1 a2 a3 a4∧P3 a1 a2 a3 a4∧P4 a1 a2 a3 a4∧P5 a1 a2 a3 a4)(k:∀a1 a2 a3 a4,P1 a1 a2 a3 a4→P2 a1 a2 a3 a4→P3 a1 a2 a3 a4→P4 a1 a2 a3 a4→P5 a1 a2 a3 a4→G):G:=bJ h λa1 h=>bJ h λa2 h=>bJ h λa3 h=>bJ h λa4 h=>k a1 a2 a3 a4 h.1 h.2.1 h.2.2.1 h.2.2.2.1 h.2.2.2.2
theorem Rq{α1 α2 α3 j5:Sort _}{P1:α1→α2→α3→j5→Prop}{P2:α1→α2→α3→j5→Prop}{P3:α1→α2→α3→j5→Prop}{P4:α1→α2→α3→j5→Prop}{P5:α1→α2→α3→j5→Prop}{P6:α1→α2→α3→j5→Prop}{P7:α1→α2→α3→j5→Prop}{G:Prop}(h:∃a1 a2 a3 a4,P1 a1 a2 a3 a4∧P2 a1 a2 a3 a4∧P3 a1 a2 a3 a4∧P4 a1 a2 a3 a4∧P5 a1 a2 a3 a4∧P6 a1 a2 a3 a4∧P7 a1 a2 a3 a4)(k:∀a1 a2 a3 a4,P1 a1 a2 a3 a4→P2 a1 a2 a3 a4→P3 a1 a2 a3 a4→P4 a1 a2 a3 a4→P5 a1 a2 a3 a4→P6 a1 a2 a3 a4→P7 a1 a2 a3 a4→G):G:=bJ h λa1 h=>bJ h λa2 h=>bJ h λa3 h=>bJ h λa4 h=>k a1 a2 a3 a4 h.1 h.2.1 h.2.2.1 h.2.2.2.1 h.2.2.2.2.1 h.2.2.2.2.2.1 h.2.2.2.2.2.2
theorem HM{α1 α2 α3 j5 yj:Sort _}{P1:α1→α2→α3→j5→yj→Prop}{G:Prop}(h:∃a1 a2 a3 a4 a5,P1 a1 a2 a3 a4 a5)(k:∀a1 a2 a3 a4 a5,P1 a1 a2 a3 a4 a5→G):G:=bJ h λa1 h=>bJ h λa2 h=>bJ h λa3 h=>bJ h λa4 h=>bJ h λa5 h=>k a1 a2 a3 a4 a5 h
theorem HN{α1 α2 α3 j5 yj:Sort _}{P1:α1→α2→α3→j5→yj→Prop}{P2:α1→α2→α3→j5→yj→Prop}{G:Prop}(h:∃a1 a2 a3 a4 a5,P1 a1 a2 a3 a4 a5∧P2 a1 a2 a3 a4 a5)(k:∀a1 a2 a3 a4 a5,P1 a1 a2 a3 a4 a5→P2 a1 a2 a3 a4 a5→G):G:=bJ h λa1 h=>bJ h λa2 h=>bJ h λa3 h=>bJ h λa4 h=>bJ h λa5 h=>k a1 a2 a3 a4 a5 h.1 h.2
theorem HO{α1 α2 α3 j5 yj:Sort _}{P1:α1→α2→α3→j5→yj→Prop}{P2:α1→α2→α3→j5→yj→Prop}{P3:α1→α2→α3→j5→yj→Prop}{P4:α1→α2→α3→j5→yj→Prop}{P5:α1→α2→α3→j5→yj→Prop}{G:Prop}(h:∃a1 a2 a3 a4 a5,P1 a1 a2 a3 a4 a5∧P2 a1 a2 a3 a4 a5∧P3 a1 a2 a3 a4 a5∧P4 a1 a2 a3 a4 a5∧P5 a1 a2 a3 a4 a5)(k:∀a1 a2 a3 a4 a5,P1 a1 a2 a3 a4 a5→P2 a1 a2 a3 a4 a5→P3 a1 a2 a3 a4 a5→P4 a1 a2 a3 a4 a5→P5 a1 a2 a3 a4 a5→G):G:=bJ h λa1 h=>bJ h λa2 h=>bJ h λa3 h=>bJ h λa4 h=>bJ h λa5 h=>k a1 a2 a3 a4 a5 h.1 h.2.1 h.2.2.1 h.2.2.2.1 h.2.2.2.2
theorem Rr{α1 α2 α3 j5 yj:Sort _}{P1:α1→α2→α3→j5→yj→Prop}{P2:α1→α2→α3→j5→yj→Prop}{P3:α1→α2→α3→j5→yj→Prop}{P4:α1→α2→α3→j5→yj→Prop}{P5:α1→α2→α3→j5→yj→Prop}{P6:α1→α2→α3→j5→yj→Prop}{G:Prop}(h:∃a1 a2 a3 a4 a5,P1 a1 a2 a3 a4 a5∧P2 a1 a2 a3 a4 a5∧P3 a1 a2 a3 a4 a5∧P4 a1 a2 a3 a4 a5∧P5 a1 a2 a3 a4 a5∧P6 a1 a2 a3 a4 a5)(k:∀a1 a2 a3 a4 a5,P1 a1 a2 a3 a4 a5→P2 a1 a2 a3 a4 a5→P3 a1 a2 a3 a4 a5→P4 a1 a2 a3 a4 a5→P5 a1 a2 a3 a4 a5→P6 a1 a2 a3 a4 a5→G):G:=bJ h λa1 h=>bJ h λa2 h=>bJ h λa3 h=>bJ h λa4 h=>bJ h λa5 h=>k a1 a2 a3 a4 a5 h.1 h.2.1 h.2.2.1 h.2.2.2.1 h.2.2.2.2.1 h.2.2.2.2.2
theorem bw{α β γ:Type}{x:Option (α × β)}{f:α × β→Option γ}{r:γ}{G:Prop}(h:x.bind f=some r)(k:∀a b,x=some (a,b)→f (a,b)=some r→G):G:=match x,h,k with
 |some (a,b),h,k=>k a b rfl h
theorem Ad{α β γ:Type}{x:Option (α × β)}{f:α × β→γ}{r:γ}{G:Prop}(h:x.map f=some r)(k:∀a b,x=some (a,b)→f (a,b)=r→G):G:=match x,h,k with
 |some (a,b),h,k=>k a b rfl (aX h)
section
variable {α:Type} {r:α} {G:Prop}
theorem qW{v:V}{f:Nat→Option α}(h:(match v with| .loc x=>f x|_=>none)=some r)(k:∀x,v=.loc x→f x=some r→G):G:=by cases v<;>first|exact k _ rfl h|exact fY h
theorem kE{v:V}{f:Int→Option α}(h:(match v with| .int x=>f x|_=>none)=some r)(k:∀x,v=.int x→f x=some r→G):G:=by cases v<;>first|exact k _ rfl h|exact fY h
theorem Et{v:V}{f:List V→Option α}(h:(match v with| .tup x=>f x|_=>none)=some r)(k:∀x,v=.tup x→f x=some r→G):G:=by cases v<;>first|exact k _ rfl h|exact fY h
theorem Eu{v:V}{f:List V→Option α}(h:(match v with| .lst x=>f x|_=>none)=some r)(k:∀x,v=.lst x→f x=some r→G):G:=by cases v<;>first|exact k _ rfl h|exact fY h
theorem NU{v:V}{f:Int→Option α}(h:(match v with| .rJ x=>f x|_=>none)=some r)(k:∀x,v=.rJ x→f x=some r→G):G:=by cases v<;>first|exact k _ rfl h|exact fY h
theorem Ae{v:V}{f:Option α}(h:(match v with| .none=>f|_=>none)=some r)(k:v=.none→f=some r→G):G:=by cases v<;>first|exact k rfl h|exact fY h
theorem KY{v u:V}{f:Int→Int→Option α}(h:(match v,u with| .int x,.int y=>f x y|_,_=>none)=some r)(k:∀x y,v=.int x→u=.int y→f x y=some r→G):G:=by
 cases v<;>first|(exact(fY h))|skip
 cases u<;>first|exact k _ _ rfl rfl h|exact fY h
theorem Ew{o:Option O}{f:List V→Option α}(h:(match o with|some (.list l)=>f l|_=>none)=some r)(k:∀l,o=some (.list l)→f l=some r→G):G:=by
 rcases o with _|(_|_|_)<;>first|exact k _ rfl h|exact fY h
theorem oB{o:Option O}{f:Nat→List (V × V)→Option α}(h:(match o with|some (.dict j es)=>f j es|_=>none)=some r)(k:∀j es,o=some (.dict j es)→f j es=some r→G):G:=by
 rcases o with _|(_|_|_)<;>first|exact k _ _ rfl h|exact fY h
theorem NV{o:Option O}{f:List V→Option α}{g:Nat→List (V × V)→Option α}(h:(match o with|some (.list l)=>f l|some (.dict j es)=>g j es|_=>none)=some r)(k:∀l,o=some (.list l)→f l=some r→G)(k2:∀j es,o=some (.dict j es)→g j es=some r→G):G:=by
 rcases o with _|(_|_|_)<;>first|exact k _ rfl h|exact k2 _ _ rfl h|exact fY h
theorem Rt{o:Option O}{f:List V→Option α}{g:Nat→List (V × V)→Option α}(h:(match o with|some (.dict j es)=>g j es|some (.list l)=>f l|_=>none)=some r)(k2:∀j es,o=some (.dict j es)→g j es=some r→G)(k:∀l,o=some (.list l)→f l=some r→G):G:=by
 rcases o with _|(_|_|_)<;>first|exact k _ rfl h|exact k2 _ _ rfl h|exact fY h
theorem KZ{o:Option (Option V)}{f:V→Option α}(h:(match o with|some (some v)=>f v|_=>none)=some r)(k:∀v,o=some (some v)→f v=some r→G):G:=by
 rcases o with _|(_|_)<;>first|exact k _ rfl h|exact fY h
theorem fJ{c:Prop} [d:Decidable c]{x:Option α}(h:(if c then x else none)=some r)(k:c→x=some r→G):G:=match d,h with
 | .isTrue hc,h=>k hc h
theorem CH{c:Prop} [d:Decidable c]{x:Option α}(h:(if c then none else x)=some r)(k:¬c→x=some r→G):G:=match d,h with
 | .isFalse hc,h=>k hc h
end
inductive Fl where
 |next|brk|cont
 |ret (v:V)
noncomputable def cA:List (V × V)→V→V→List (V × V)
 | [],k,v=>[(k,v)]
 |(a,u)::r,k,v=>if a=k then(a,v)::r else(a,u)::cA r k v
noncomputable def fU:List (V × V)→V→List (V × V)
 | [],_=>[]
 |(a,u)::r,k=>if a=k then r else(a,u)::fU r k
noncomputable def o7:List (Nat × V)→Nat→Option V
 | [],_=>none
 |(a,v)::r,k=>if a=k then some v else o7 r k
noncomputable def kF:List (Nat × V)→Nat→V→List (Nat × V)
 | [],k,v=>[(k,v)]
 |(a,u)::r,k,v=>if a=k then(a,v)::r else(a,u)::kF r k v
theorem sL{P:V→Prop}{b:Bool}{f:V→Bool}(h0:P .none)(h1:∀i,P (.int i))(h2:∀n,P (.str n))(h3:∀l,b=true→l.all f=true→P (.tup l))(h4:∀l,b=true→l.all f=true→P (.lst l)){v:V}(h:Ef b f v=true):P v:=by
 cases v<;>first|exact nB h|skip
 ·exact h0
 ·exact h1 _
 ·exact h2 _
 ·exact h3 _ (bZ h).1 (bZ h).2
 ·exact h4 _ (bZ h).1 (bZ h).2
noncomputable def dB:V→Option Bool
 | .bool b=>some b
 | .int i=>some (i != 0)
 |_=>none
noncomputable def jq(op:Op)(v u:V):Option V:=match v with
 | .int a=>match u with
  | .int b=>(binI op a b).map .int
  |_=>none
 | .lst a=>match u with
  | .lst b=>if op=.add∧a.length+b.length≤1000 then some (.lst (a++b)) else none
  |_=>none
 | .tup a=>match u with
  | .tup b=>if op=.add∧a.length+b.length≤1000∧a≠[]∧b≠[] then some (.tup (a++b)) else none
  |_=>none
 |_=>none
noncomputable def gE(i:Int):Option Nat:=if 0≤i∧i<2 ^ 24 then some i.toNat else none
noncomputable def cH(v i:V)(σ:aa):Option V:=
 match v with
 | .tup l=>match i with| .int i=>(gE i).bind (l[·]?)|_=>none
 | .lst l=>match i with| .int i=>(gE i).bind (l[·]?)|_=>none
 | .aM l=>match i with| .int i=>((gE i).bind (l[·]?)).map λ(n:Nat)=> .int (n:Int)|_=>none
 | .loc x=>match σ[x]? with
  |some (.list l)=>match i with| .int i=>(gE i).bind (l[·]?)|_=>none
  |some (.dict k es)=>if kk i=0∨kk i=3∨k≠kk i then none else aQ es i
  |_=>none
 |_=>none
noncomputable def nQ{α:Type}(l:List α)(a b:Nat):List α:=(l.drop a).take (b-a)
noncomputable def qp(v:V)(lo hi:Option Nat):Option V:=
 match v,lo,hi with
 | .aM l,some a,some b=>if l.length≤1000 then some (.aM (nQ l a b)) else none
 | .aM l,some a,none=>if l.length≤1000 then some (.aM (l.drop a)) else none
 | .lst l,none,some b=>if l.length≤1000 then some (.lst (l.take b)) else none
 | .tup l,none,some b=>if b<l.length∧l.length≤1000 then some (.tup (l.take b)) else none
 |_,_,_=>none
noncomputable def oE(v:V)(σ:aa):Bool:=match v with
 | .loc x=>match σ[x]? with|some (.dict _ _)=>true|_=>false
 |_=>false
noncomputable def mH(v:V)(σ:aa):Bool:=match v with
 | .loc x=>match σ[x]? with|some (.list _)=>true|_=>false
 |_=>false
noncomputable def qX(v k:V)(σ:aa):Option V:=match v with
 | .loc x=>match σ[x]? with
  |some (.dict kd es)=>if kk k≠3∨¬(kd=0∨kd=3) then none else some ((aQ es k).getD .none)
  |_=>none
 |_=>none
noncomputable def lO(v u:V)(σ:aa):Option aa:=match v with
 | .loc x=>match σ[x]? with
  |some (.list vs)=>if vs.length<1000 then some (σ.set x (.list (vs++[u]))) else none
  |_=>none
 |_=>none
noncomputable def upTo:Nat→Nat→List V
 |_,0=>[]
 |i,n+1=> .int i::upTo (i+1) n
noncomputable def jf(v:V)(σ:aa):Option (List V):=
 match v with
 | .tup l=>some l
 | .lst l=>some l
 | .aM l=>some (l.map λn=> .int (n:Nat))
 | .rJ n=>if 0≤n∧n≤1000 then some (upTo 0 n.toNat) else none
 | .loc x=>match σ[x]? with
  |some (.list l)=>some l
  |_=>none
 |_=>none
noncomputable def dictOf:List V→Option O
 | []=>some (.dict 0 [])
 |k::v::r=>if kk k=0∨kk k=3 then none else lP (kk k) r [(k,v)]
 |_=>none
where
 lP (n:Nat):List V→List (V × V)→Option O
  | [],d=>some (.dict n d)
  |k::v::r,d=>if kk k=n then lP n r (cA d k v) else none
  |_,_=>none
noncomputable def rowsOf(es:List (V × V)):List V→Option (List V)
 | []=>some []
 | .str n::r=>(aQ es (.str n)).bind λv=>(rowsOf es r).map (v:: ·)
 |_=>none
noncomputable def putAll:List (V × V)→List (V × V)→List (V × V)
 |d,[]=>d
 |d,(k,v)::r=>putAll (cA d k v) r
noncomputable def JX:V→Option Nat
 | .loc l=>some l
 |_=>none
noncomputable def CI(v:V)(n:Nat)(σ:aa):Option V:=match v with
 | .loc x=>match σ[x]? with
  |some (.inst _ fs)=>o7 fs n
  |_=>none
 |_=>none
noncomputable def HP(v a b:V):Option V:=match a,b with
  | .int a,.int b=>(gE a).bind λa=>(gE b).bind λb=>qp v (some a) (some b)
  |_,_=>none
noncomputable def Na(v a:V):Option V:=match a with
  | .int a=>(gE a).bind λa=>qp v (some a) none
  |_=>none
noncomputable def NX(v b:V):Option V:=match b with
  | .int b=>(gE b).bind λb=>qp v none (some b)
  |_=>none
noncomputable def sM(v:V)(n:Nat)(u:V)(σ:aa):Option aa:=match v with
  | .loc x=>match σ[x]? with
   |some (.inst c fs)=>if fs.length≤900 then some (σ.set x (.inst c (kF fs n u))) else none
   |_=>none
  |_=>none
noncomputable def kG(u k v:V)(σ:aa):Option aa:=match u with
  | .loc x=>match σ[x]? with
   |some (.dict kd es)=>if kk k=0∨¬(kd=0∨kd=kk k) then none else if es.length<1000 then some (σ.set x (.dict (kk k) (cA es k v))) else none
   |some (.list vs)=>match k with| .int i=>(gE i).bind λi=>if i<vs.length then some (σ.set x (.list (vs.set i v))) else none|_=>none
   |_=>none
  |_=>none
noncomputable def yk(u k:V)(σ:aa):Option aa:=match u with
  | .loc x=>match σ[x]? with
   |some (.dict kd es)=>if kk k=0∨kd≠kk k then none else if(aQ es k).isSome∧es.length≤1000 then some (σ.set x (.dict kd (fU es k))) else none
   |_=>none
  |_=>none
noncomputable def Ex(op:Op)(v u:V):Option V:=match op,v,u with
   | .add,.int a,.int b=>some (.int (a+b))
   |_,_,_=>none
noncomputable def j6(v:V)(o:Option (Option V))(σ:aa):Option (List V × List V):=match v,o with
 | .lst names,some (some (.loc l))=>match σ[l]? with
  |some (.dict 2 es)=>if names.length≤1000 then(rowsOf es names).map λvs=>(names,vs) else none
  |_=>none
 |_,_=>none
noncomputable def Ey(ρ:Env)(i:Nat):Option Nat:=match ρ[i]? with|some (some v)=>JX v|_=>none
noncomputable def dictAt(σ:aa)(l:Nat):Option (Nat × List (V × V)):=match σ[l]? with|some (.dict k es)=>some (k,es)|_=>none
noncomputable def sO(σ:aa)(l:Nat):Option (Nat × List (Nat × V)):=match σ[l]? with|some (.inst c fs)=>some (c,fs)|_=>none
noncomputable def JY(ρ:Env)(x b n g:Nat)(σ:aa):Option (Fl × Env × aa):=(Ey ρ g).bind λlg=>(Ey ρ b).bind λlb=>(dictAt σ lg).bind λ(k1,es)=>(sO σ lb).bind λ(_,fs)=>(o7 fs n).bind λw=>(JX w).bind λlt=>(dictAt σ lt).bind λ(kd,et)=>
 if k1=1∧kd≤1∧lt≠lg∧es.length+et.length≤1000∧x<ρ.length then(es.getLast?).map λe=>(.next,ρ.set x (some e.1),σ.set lt (.dict 1 (putAll et es))) else none
section
variable (call:Nat→List V→aa→Option (V × aa))
mutual
noncomputable def aH(ρ:Env):ME→aa→Option (V × aa)
 | .lit v,σ=>some (v,σ)
 | .var i,σ=>match ρ[i]? with|some (some v)=>some (v,σ)|_=>none
 | .glob _ v,σ=>some (v,σ)
 | .attr e n,σ=>(aH ρ e σ).bind λ(v,σ)=>(CI v n σ).map λu=>(u,σ)
 | .item e i,σ=>(aH ρ e σ).bind λ(v,σ)=>(aH ρ i σ).bind λ(j,σ)=>(cH v j σ).map λu=>(u,σ)
 | .slice e lo hi,σ=>(aH ρ e σ).bind λ(v,σ)=>(aH ρ lo σ).bind λ(a,σ)=>(aH ρ hi σ).bind λ(b,σ)=>(HP v a b).map λu=>(u,σ)
 | .lH e lo,σ=>(aH ρ e σ).bind λ(v,σ)=>(aH ρ lo σ).bind λ(a,σ)=>(Na v a).map λu=>(u,σ)
 | .j3 e hi,σ=>(aH ρ e σ).bind λ(v,σ)=>(aH ρ hi σ).bind λ(b,σ)=>(NX v b).map λu=>(u,σ)
 | .call f args,σ=>(aH ρ f σ).bind λ(f,σ)=>(jU ρ args σ).bind λ(vs,σ)=>match f with
  | .fn f=>call f vs σ
  | .cl c=>(call c (.loc σ.length::vs) (σ++[.inst c []])).bind λ(r,τ)=>match r with| .none=>some (.loc σ.length,τ)|_=>none
  |_=>none
 | .bH b _ e,σ=>(aH ρ e σ).bind λ(v,σ)=>(dJ b v σ).map λu=>(u,σ)
 | .uI e k,σ=>(aH ρ e σ).bind λ(v,σ)=>if oE v σ then(aH ρ k σ).bind λ(k,σ)=>(qX v k σ).map λu=>(u,σ) else none
 | .append e y,σ=>(aH ρ e σ).bind λ(v,σ)=>if mH v σ then(aH ρ y σ).bind λ(u,σ)=>(lO v u σ).map λσ=>(.none,σ) else none
 | .bin op a b,σ=>(aH ρ a σ).bind λ(v,σ)=>(aH ρ b σ).bind λ(u,σ)=>(jq op v u).map λr=>(r,σ)
 | .neg a,σ=>(aH ρ a σ).bind λ(v,σ)=>match v with| .int i=>some (.int (-i),σ)|_=>none
 | .not a,σ=>(aH ρ a σ).bind λ(v,σ)=>(dB v).map λb=>(.bool (!b),σ)
 | .and es,σ=>u6 ρ es σ
 | .or es,σ=>u9 ρ es σ
 | .cmp a op b,σ=>(aH ρ a σ).bind λ(v,σ)=>(aH ρ b σ).bind λ(u,σ)=>(cX op v u σ).map λr=>(.bool r,σ)
 | .sj a o1 b o2 c,σ=>(aH ρ a σ).bind λ(v,σ)=>(aH ρ b σ).bind λ(u,σ)=>(cX o1 v u σ).bind λr=>if r then(aH ρ c σ).bind λ(t,σ)=>(cX o2 u t σ).map λr=>(.bool r,σ) else some (.bool false,σ)
 | .ite t a b,σ=>(aH ρ t σ).bind λ(v,σ)=>(dB v).bind λc=>if c then aH ρ a σ else aH ρ b σ
 | .tup es,σ=>(jU ρ es σ).map λ(vs,σ)=>(.tup vs,σ)
 | .lst es,σ=>(jU ρ es σ).map λ(vs,σ)=>(.lst vs,σ)
 | .cell es,σ=>(jU ρ es σ).map λ(vs,σ)=>(.loc σ.length,σ++[.list vs])
 | .dict es,σ=>(jU ρ es σ).bind λ(vs,σ)=>(dictOf vs).map λo=>(.loc σ.length,σ++[o])
 | .nX e x it,σ=>(aH ρ it σ).bind λ(v,σ)=>match v with
  | .rJ n=>if 0≤n∧n≤1000 then(Ei ρ e x (upTo 0 n.toNat)).map λl=>(.lst (l.map .int),σ) else none
  |_=>none
 | .o4 it,σ=>(aH ρ it σ).bind λ(v,σ)=>match v with
  | .lst []=>some (.lst [],σ)
  |_=>none
 | .never,_=>none
noncomputable def jU(ρ:Env):List ME→aa→Option (List V × aa)
 | [],σ=>some ([],σ)
 |e::r,σ=>(aH ρ e σ).bind λ(v,σ)=>(jU ρ r σ).map λ(vs,σ)=>(v::vs,σ)
noncomputable def u6(ρ:Env):List ME→aa→Option (V × aa)
 | [],_=>none
 | [e],σ=>aH ρ e σ
 |e::r,σ=>(aH ρ e σ).bind λ(v,σ)=>(dB v).bind λb=>if b then u6 ρ r σ else some (v,σ)
noncomputable def u9(ρ:Env):List ME→aa→Option (V × aa)
 | [],_=>none
 | [e],σ=>aH ρ e σ
 |e::r,σ=>(aH ρ e σ).bind λ(v,σ)=>(dB v).bind λb=>if b then some (v,σ) else u9 ρ r σ
end
noncomputable def cY(ρ:Env):List Nat→List V→Option Env
 | [],[]=>some ρ
 |x::xs,v::vs=>cY (ρ.set x (some v)) xs vs
 |_,_=>none
noncomputable def g6(body:Env→aa→Option (Fl × Env × aa))(fZ:Env→V→Option Env)(ok:aa→Bool):List V→Env→aa→Option (Fl × Env × aa)
 | [],ρ,σ=>if ok σ then some (.next,ρ,σ) else none
 |v::r,ρ,σ=>if ok σ then(fZ ρ v).bind λρ=>(body ρ σ).bind λ(f,ρ,σ)=>match f with
  | .brk=>some (.next,ρ,σ)
  | .ret u=>some (.ret u,ρ,σ)
  |_=>g6 body fZ ok r ρ σ
  else none
noncomputable def lQ(test:Env→aa→Option (Bool × aa))(body:Env→aa→Option (Fl × Env × aa)):Nat→Env→aa→Option (Fl × Env × aa)
 |0,_,_=>none
 |n+1,ρ,σ=>(test ρ σ).bind λ(b,σ)=>if b then(body ρ σ).bind λ(f,ρ,σ)=>match f with
  | .brk=>some (.next,ρ,σ)
  | .ret u=>some (.ret u,ρ,σ)
  |_=>lQ test body n ρ σ
  else some (.next,ρ,σ)
noncomputable def dm(v:V)(σ:aa)(τ:aa):Bool:=match v with
 | .loc x=>match σ[x]?,τ[x]? with
  |some (.list a),some (.list b)=>decide (a=b)
  |_,_=>false
 |_=>true
mutual
noncomputable def kH(ρ:Env):MS→aa→Option (Fl × Env × aa)
 | .assign x e,σ=>(aH call ρ e σ).map λ(v,σ)=>(.next,ρ.set x (some v),σ)
 | .jQ x d _ it,σ=>(aH call ρ it σ).bind λ(v,σ)=>(j6 v ρ[d]? σ).map λ(_,vs)=>(.next,ρ.set x (some (.lst vs)),σ)
 | .jR x d _ it,σ=>(aH call ρ it σ).bind λ(v,σ)=>(j6 v ρ[d]? σ).map λ(l,vs)=>(.next,ρ.set x (some (.loc σ.length)),σ++[.dict 2 (putAll [] (l.zip vs))])
 | .sq x b n g,σ=>JY ρ x b n g σ
 | .setattr o n e,σ=>(aH call ρ e σ).bind λ(v,σ)=>(aH call ρ o σ).bind λ(u,σ)=>(sM u n v σ).map λτ=>(.next,ρ,τ)
 | .aS o k e,σ=>(aH call ρ e σ).bind λ(v,σ)=>(aH call ρ o σ).bind λ(u,σ)=>(aH call ρ k σ).bind λ(k,σ)=>(kG u k v σ).map λτ=>(.next,ρ,τ)
 | .unpack xs e,σ=>(aH call ρ e σ).bind λ(v,σ)=>match v with
  | .tup l=>(cY ρ xs l).map λρ=>(.next,ρ,σ)
  |_=>none
 | .aug x op e,σ=>match ρ[x]? with
  |some (some v)=>(aH call ρ e σ).bind λ(u,σ)=>(Ex op v u).map λw=>(.next,ρ.set x (some w),σ)
  |_=>none
 | .expr e,σ=>(aH call ρ e σ).bind λ(v,σ)=>match v with| .none=>some (.next,ρ,σ)|_=>none
 | .ret e,σ=>(aH call ρ e σ).map λ(v,σ)=>(.ret v,ρ,σ)
 | .ite t a b,σ=>(aH call ρ t σ).bind λ(v,σ)=>(dB v).bind λc=>if c then aP ρ a σ else aP ρ b σ
 | .while t b,σ=>lQ (λρ σ=>(aH call ρ t σ).bind λ(v,σ)=>(dB v).map λc=>(c,σ)) (λρ σ=>aP ρ b σ) 4 ρ σ
 | .for x it b,σ=>(aH call ρ it σ).bind λ(v,σ)=>(jf v σ).bind λl=>g6 (λρ σ=>aP ρ b σ) (λρ v=>some (ρ.set x (some v))) (dm v σ) l ρ σ
 | .wz xs it b,σ=>(aH call ρ it σ).bind λ(v,σ)=>(jf v σ).bind λl=>g6 (λρ σ=>aP ρ b σ) (λρ v=>match v with| .tup l=>cY ρ xs l|_=>none) (dm v σ) l ρ σ
 | .brk,σ=>some (.brk,ρ,σ)
 | .cont,σ=>some (.cont,ρ,σ)
 | .jm o k,σ=>(aH call ρ o σ).bind λ(u,σ)=>(aH call ρ k σ).bind λ(k,σ)=>(yk u k σ).map λτ=>(.next,ρ,τ)
 | .never,_=>none
noncomputable def aP(ρ:Env):List MS→aa→Option (Fl × Env × aa)
 | [],σ=>some (.next,ρ,σ)
 |s::r,σ=>(kH ρ s σ).bind λ(f,ρ,σ)=>match f with
  | .next=>aP ρ r σ
  |f=>some (f,ρ,σ)
end
end
noncomputable def kI(d:FD)(vs:List V):Option Env:=
 let n:=d.args.length
 if vs.length≤n∧n≤vs.length+d.jT.length∧n≤d.locals.length then
  some ((vs++d.jT.drop (d.jT.length-(n-vs.length))).map some++List.replicate (d.locals.length-n) none)
 else none
noncomputable def af(P:Nat→Option FD):Nat→Nat→List V→aa→Option (V × aa)
 |0,_,_,_=>none
 |n+1,f,vs,σ=>(P f).bind λd=>(kI d vs).bind λρ=>(aP (af P n) ρ d.body σ).bind λ(fl,_,σ)=>match fl with
  | .ret v=>some (v,σ)
  | .next=>some (.none,σ)
  |_=>none
section
open Int.Internal.Linear (Expr)
noncomputable def dZ(x:List Int):Expr→Int
 | .num k=>k
 | .var i=>x.getD i 0
 | .add a b=>dZ x a+dZ x b
 | .sub a b=>dZ x a-dZ x b
 | .neg a=> -dZ x a
 | .mulL k a=>k*dZ x a
 | .mulR a k=>dZ x a*k
noncomputable def dN(x:List Nat):Expr→Nat
 | .num k=>k.toNat
 | .var i=>x.getD i 0
 | .add a b=>dN x a+dN x b
 | .mulL k a=>k.toNat*dN x a
 | .mulR a k=>dN x a*k.toNat
 |_=>0
noncomputable def vN:Expr→Bool
 | .num k=>decide (0≤k)
 | .var _=>true
 | .add a b=>vN a&&vN b
 | .mulL k a=>decide (0≤k)&&vN a
 | .mulR a k=>decide (0≤k)&&vN a
 |_=>false
theorem jV(x:List Nat)(e:Expr)(h:vN e=true):(dN x e:Int)=dZ (x.map Int.ofNat) e:=by
 induction e with
 |num k=>exact Int.toNat_of_nonneg (dw h)
 |var i=>
  show((x.getD i 0:Nat):Int)=(x.map Int.ofNat).getD i 0
  simp[List.getD];cases x[i]? <;>rfl
 |add a b ha hb=>exact congr (aj HAdd.hAdd (ha (bZ h).1)) (hb (bZ h).2)
 |mulL k a ha=>exact congr (aj HMul.hMul (Int.toNat_of_nonneg (dw (bZ h).1))) (ha (bZ h).2)
 |mulR a k ha=>exact congr (aj HMul.hMul (ha (bZ h).2)) (Int.toNat_of_nonneg (dw (bZ h).1))
 |sub=>cases h
 |neg=>cases h
noncomputable def pe:List Int→List Int→Int
 |c::p,a::x=>c*a+pe p x
 |_,_=>0
noncomputable def pad(m:Int):List Int→List Int→List Int
 |a::p,b::q=>(a+m*b)::pad m p q
 | [],q=>q.map (m* ·)
 |p,[]=>p
@[elab_as_elim] theorem ay{α:Sort _}{a b:α}{P:α→Prop}(h:a=b)(k:P b):P a:=h▸k
theorem K0(p:List Int):pe p []=0:=by cases p<;>rfl
theorem Ez(m:Int):∀(p x:List Int),pe (p.map (m* ·)) x=m*pe p x
 | [],_=>(Int.mul_zero m).symm
 |_::_,[]=>(Int.mul_zero m).symm
 |c::p,a::x=>by
  show m*c*a+pe (p.map (m* ·)) x=m*(c*a+pe p x)
  rw[Ez m p x,Int.mul_add,Int.mul_assoc]
theorem wJ(m:Int):∀(p q x:List Int),pe (pad m p q) x=pe p x+m*pe q x
 | [],q,x=>(Ez m q x).trans (Int.zero_add _).symm
 |a::p,[],x=>by show pe (a::p) x=pe (a::p) x+m*0;rw[Int.mul_zero,Int.add_zero]
 |a::p,b::q,[]=>by show(0:Int)=0+m*0;rw[Int.mul_zero];rfl
 |a::p,b::q,y::x=>by
  show(a+m*b)*y+pe (pad m p q) x=a*y+pe p x+m*(b*y+pe q x)
  rw[wJ m p q x,Int.add_mul,Int.mul_add,Int.mul_assoc]
  ac_rfl
noncomputable def Qw:Nat→List Int
 |0=>[1]
 |i+1=>0::Qw i
theorem JZ:∀(i:Nat)(x:List Int),pe (Qw i) x=x.getD i 0
 |i,[]=>K0 _
 |0,a::x=>by show 1*a+pe [] x=a;rw[Int.one_mul];exact Int.add_zero a
 |i+1,a::x=>by show 0*a+pe (Qw i) x=(a::x).getD (i+1) 0;rw[Int.zero_mul,Int.zero_add,JZ i x];rfl
noncomputable def po(m:Int):Expr→List Int→List Int
 | .num k,p=>pad m p [k]
 | .var i,p=>pad m p (Qw (i+1))
 | .add a b,p=>po m b (po m a p)
 | .sub a b,p=>po (-m) b (po m a p)
 | .neg a,p=>po (-m) a p
 | .mulL k a,p=>po (m*k) a p
 | .mulR a k,p=>po (m*k) a p
theorem jC(x:List Int):∀(e:Expr)(m:Int)(p:List Int),pe (po m e p) (1::x)=pe p (1::x)+m*dZ x e
 | .num k,m,p=>by refine(wJ m p [k] _).trans ?_;show _+m*(k*1+0)=_+m*k;rw[Int.mul_one,Int.add_zero]
 | .var i,m,p=>by refine(wJ m p _ _).trans ?_;rw[JZ];rfl
 | .add a b,m,p=>by refine(jC x b m _).trans ?_;rw[jC x a m p,Int.add_assoc,←Int.mul_add];rfl
 | .sub a b,m,p=>by refine(jC x b (-m) _).trans ?_;rw[jC x a m p,Int.add_assoc,Int.neg_mul,←Int.mul_neg,←Int.mul_add];rfl
 | .neg a,m,p=>by refine(jC x a (-m) _).trans ?_;rw[Int.neg_mul,←Int.mul_neg];rfl
 | .mulL k a,m,p=>by refine(jC x a (m*k) _).trans ?_;rw[Int.mul_assoc];rfl
 | .mulR a k,m,p=>by refine(jC x a (m*k) _).trans ?_;rw[Int.mul_assoc,Int.mul_comm k];rfl
inductive Ct where
 |l (m:Nat) (a b:Expr)
 |s (m:Nat) (a b:Expr)
 |e (m:Nat) (a b:Expr)
 |f (m:Nat) (a b:Expr)
noncomputable def Ct.dZ(x:List Int):Ct→Prop
 | .l _ a b=>Mine.dZ x a≤Mine.dZ x b
 | .s _ a b=>Mine.dZ x a<Mine.dZ x b
 | .e _ a b=>Mine.dZ x a=Mine.dZ x b
 | .f _ a b=>Mine.dZ x a=Mine.dZ x b
noncomputable def Ct.dN(x:List Nat):Ct→Prop
 | .l _ a b=>Mine.dN x a≤Mine.dN x b
 | .s _ a b=>Mine.dN x a<Mine.dN x b
 | .e _ a b=>Mine.dN x a=Mine.dN x b
 | .f _ a b=>Mine.dN x a=Mine.dN x b
noncomputable def Ct.v:Ct→Bool
 | .l _ a b=>vN a&&vN b
 | .s _ a b=>vN a&&vN b
 | .e _ a b=>vN a&&vN b
 | .f _ a b=>vN a&&vN b
noncomputable def Ct.p(p:List Int):Ct→List Int
 | .l m a b=>po (-m) a (po m b p)
 | .s m a b=>po (-m) a (po m b (pad m p [-1]))
 | .e m a b=>po (-m) a (po m b p)
 | .f m a b=>po (-m) b (po m a p)
theorem Qx(P a b m:Int):P+m*b+ -m*a=P+m*(b-a):=by rw[Int.add_assoc,Int.neg_mul,←Int.mul_neg,←Int.mul_add];rfl
theorem Ct.pos{x:List Int}{p:List Int}{c:Ct}(h:c.dZ x)(hp:0≤pe p (1::x)):0≤pe (c.p p) (1::x):=by
 cases c with
 |l m a b=>
  have e:=((jC x a (-m) (po m b p)).trans (aj (· +_) (jC x b m p))).trans (Qx _ _ _ _)
  exact e▸Int.add_nonneg hp (Int.mul_nonneg (fF m) (Int.sub_nonneg_of_le h))
 |s m a b=>
  have e:=((jC x a (-m) (po m b (pad m p [-1]))).trans (aj (· +_) (jC x b m _))).trans (Qx _ _ _ _)
  refine e▸(wJ m p [-1] (1::x))▸ ?_
  rw[Int.add_assoc,show pe [-1] (1::x)= -1 from rfl,←Int.mul_add]
  exact Int.add_nonneg hp (Int.mul_nonneg (fF m) (by have h:Mine.dZ x a<Mine.dZ x b:=h;omega))
 |e m a b=>
  have e:=((jC x a (-m) (po m b p)).trans (aj (· +_) (jC x b m p))).trans (Qx _ _ _ _)
  refine e▸ ?_
  rw[show Mine.dZ x a=Mine.dZ x b from h,Int.sub_self,Int.mul_zero,Int.add_zero]
  exact hp
 |f m a b=>
  have e:=((jC x b (-m) (po m a p)).trans (aj (· +_) (jC x a m p))).trans (Qx _ _ _ _)
  refine e▸ ?_
  rw[show Mine.dZ x a=Mine.dZ x b from h,Int.sub_self,Int.mul_zero,Int.add_zero]
  exact hp
theorem Ct.cast{x:List Nat}{c:Ct}(v:c.v=true)(h:c.dN x):c.dZ (x.map Int.ofNat):=by
 cases c with
 |l m a b=>show Mine.dZ _ a≤Mine.dZ _ b;exact(jV x a (bZ v).1)▸(jV x b (bZ v).2)▸(gh h:((Mine.dN x a:Nat):Int)≤(Mine.dN x b:Nat))
 |s m a b=>show Mine.dZ _ a<Mine.dZ _ b;exact(jV x a (bZ v).1)▸(jV x b (bZ v).2)▸(Int.ofNat_lt.mpr h:((Mine.dN x a:Nat):Int)<(Mine.dN x b:Nat))
 |e m a b=>show Mine.dZ _ a=Mine.dZ _ b;exact(jV x a (bZ v).1)▸(jV x b (bZ v).2)▸(aj Int.ofNat h:((Mine.dN x a:Nat):Int)=(Mine.dN x b:Nat))
 |f m a b=>show Mine.dZ _ a=Mine.dZ _ b;exact(jV x a (bZ v).1)▸(jV x b (bZ v).2)▸(aj Int.ofNat h:((Mine.dN x a:Nat):Int)=(Mine.dN x b:Nat))
noncomputable def Ru:List Int→Bool
 | []=>true
 |a::p=>decide (a=0)&&Ru p
noncomputable def Rv:List Int→Bool
 | []=>true
 |a::p=>decide (a≤0)&&Rv p
theorem EA:∀(p x:List Int),Ru p=true→pe p x=0
 | [],_,_=>rfl
 |_::_,[],_=>rfl
 |_::p,y::x,h=>by
  show _*y+pe p x=0
  rw[dw (bZ h).1,EA p x (bZ h).2,Int.zero_mul];rfl
theorem EB:∀(p:List Int)(x:List Nat),Rv p=true→pe p (x.map Int.ofNat)≤0
 | [],_,_=>Int.le_refl 0
 |_::_,[],_=>Int.le_refl 0
 |a::p,y::x,h=>Int.add_nonpos (Int.mul_nonpos_of_nonpos_of_nonneg (dw (bZ h).1) (fF y)) (EB p x (bZ h).2)
noncomputable def NY:List Int→List Ct→Bool
 |p,c::r=>NY (c.p p) r
 | [],[]=>false
 |a::p,[]=>decide (a<0)&&Ru p
noncomputable def NZ:List Int→List Ct→Bool
 |p,c::r=>c.v&&NZ (c.p p) r
 | [],[]=>false
 |a::p,[]=>decide (a<0)&&Rv p
noncomputable def K1(x:List Int)(G:Prop):List Ct→Prop
 | []=>G
 |c::r=>c.dZ x→K1 x G r
noncomputable def K3(x:List Nat)(G:Prop):List Ct→Prop
 | []=>G
 |c::r=>c.dN x→K3 x G r
theorem J0(x:List Int):∀(cs:List Ct)(p:List Int),NY p cs=true→0≤pe p (1::x)→K1 x False cs
 |c::r,p,h,hp=>λhc=>J0 x r _ h (Ct.pos hc hp)
 | [],a::p,h,hp=>by
  have hp:0≤a*1+pe p x:=hp
  rw[EA p x (bZ h).2,Int.mul_one,Int.add_zero] at hp
  exact kD hp (dw (bZ h).1)
theorem J5(x:List Nat):∀(cs:List Ct)(p:List Int),NZ p cs=true→0≤pe p (1::x.map Int.ofNat)→K3 x False cs
 |c::r,p,h,hp=>λhc=>J5 x r _ (bZ h).2 (Ct.pos (Ct.cast (bZ h).1 hc) hp)
 | [],a::p,h,hp=>by
  have hp:0≤a*1+pe p (x.map Int.ofNat):=hp
  rw[Int.mul_one] at hp
  exact kD hp (Int.lt_of_le_of_lt (Int.add_le_add_left (EB p x (bZ h).2) a) ((Int.add_zero a).symm▸(dw (bZ h).1:a<0)))
theorem EC(x:List Int){g n:Ct}(k:¬g.dZ x→n.dZ x):∀(cs:List Ct),(n.dZ x→K1 x False cs)→K1 x (g.dZ x) cs
 | [],h=>Classical.byContradiction λq=>h (k q)
 |_::r,h=>λhc=>EC x k r λq=>h q hc
theorem EF(x:List Nat){g n:Ct}(k:¬g.dN x→n.dN x):∀(cs:List Ct),(n.dN x→K3 x False cs)→K3 x (g.dN x) cs
 | [],h=>Classical.byContradiction λq=>h (k q)
 |_::r,h=>λhc=>EF x k r λq=>h q hc
theorem qq(x:List Int)(cs:List Ct)(h:NY [] cs=true):K1 x False cs:=J0 x cs [] h (Int.le_refl 0)
theorem bO(x:List Nat)(cs:List Ct)(h:NZ [] cs=true):K3 x False cs:=J5 x cs [] h (Int.le_refl 0)
theorem lD(x:List Int)(m:Nat)(a b:Expr)(cs:List Ct)(h:NY [] (.s m b a::cs)=true):K1 x (dZ x a≤dZ x b) cs:=EC x (g:= .l m a b) (n:= .s m b a) (λq=>Int.not_le.mp q) cs (qq x (.s m b a::cs) h)
theorem ltI(x:List Int)(m:Nat)(a b:Expr)(cs:List Ct)(h:NY [] (.l m b a::cs)=true):K1 x (dZ x a<dZ x b) cs:=EC x (g:= .s m a b) (n:= .l m b a) (λq=>Int.not_lt.mp q) cs (qq x (.l m b a::cs) h)
theorem cP(x:List Nat)(m:Nat)(a b:Expr)(cs:List Ct)(h:NZ [] (.s m b a::cs)=true):K3 x (dN x a≤dN x b) cs:=EF x (g:= .l m a b) (n:= .s m b a) (λq=>Nat.not_le.mp q) cs (bO x (.s m b a::cs) h)
theorem ltN(x:List Nat)(m:Nat)(a b:Expr)(cs:List Ct)(h:NZ [] (.l m b a::cs)=true):K3 x (dN x a<dN x b) cs:=EF x (g:= .s m a b) (n:= .l m b a) (λq=>Nat.not_lt.mp q) cs (bO x (.l m b a::cs) h)
theorem aI:true=true:=rfl
noncomputable abbrev vA:=Expr.var 0
noncomputable abbrev vB:=Expr.var 1
noncomputable abbrev vC:=Expr.var 2
noncomputable abbrev vD:=Expr.var 3
noncomputable abbrev vE:=Expr.var 4
noncomputable abbrev vF:=Expr.var 5
noncomputable abbrev vG:=Expr.var 6
noncomputable abbrev vH:=Expr.var 7
noncomputable abbrev vI:=Expr.var 8
noncomputable abbrev vJ:=Expr.var 9
end
@[elab_as_elim] theorem uE{α:Sort _}{a b:α}{P:α→Prop}(h:b=a)(k:P b):P a:=h▸k
theorem sU{α:Type}{x:Option α}{a b:α}(h:x=some a)(g:x=some b):a=b:=aX (h.symm.trans g)
theorem sN{α:Type}{x:Option α}{a:α}{G:Prop}(h:x=some a)(g:x=none):G:=fY (g.symm.trans h)
@[elab_as_elim] theorem sE{α:Type}{x:Option α}{a b:α}{P:α→Prop}(h:x=some a)(g:x=some b)(k:P a):P b:=sU h g▸k
theorem K4{α:Type}{P:α→Prop}:∀x∈([]:List α),P x:=λ_ h=>absurd h iO
theorem all1{α:Type}{P:α→Prop}{a:α}(h:P a):∀x∈[a],P x:=λ_ q=>List.mem_singleton.mp q▸h
theorem all2{α:Type}{P:α→Prop}{a b:α}(h:P a)(g:P b):∀x∈[a,b],P x:=λ_ q=>(eH q).elim (λe=>e▸h) λq=>List.mem_singleton.mp q▸g
noncomputable def P:Nat→Option FD:=λi=>fns[i]?
noncomputable def Zl:Nat:=67
noncomputable def P0:Nat→Option FD:=λi=>if i=7∨i=9∨i=67 then none else fns[i]?
noncomputable def fnNames:List String:=["number_of","look4","head_size","size_at","place_at","look6","new_meta","Packet.__init__","look","packet_of","family_of","base_of","part","address_at","target_of","error_kinds","Talk.__init__","TalkBook.__init__","is_icmp","is_error","answer_kind","ports_at","tuple_at","tuple_of","inner_tuple","invert","side_of","drop_talk","look_up","begin_any","go_udp","begin_icmp","go_icmp","go_plain","talk_of_error","is_error_packet","error_talk","error_or_near","udp_trackers","icmp_trackers","plain_trackers","does_fit","take_expect","tracker_of","sweep","evict","put_talk","found_talk","relate_talk","begin_talk","bring_on","track","confirm","Scene.__init__","_law_digit","_law_octets","_law_address","_law_pairs","_law_echo","_law_plain","_law_whole","_law_seen","_law_find","_law_track","_law_confirm","_law_is_talk","_law_is_book","law"]
noncomputable def kJ(n:Nat)(l:List Nat)(k:Int)(σ:aa):Option (V × aa):=
 if l.length≤1000 then
  (aP (af P0 n) [some (.loc σ.length),some (.bytes l),some (.int k),some (.bytes [])] (b7.drop 2) (σ++[.inst 7 [(13,.aM l),(15,.aM [])]])).bind λ(f1,_,σ1)=>match f1 with
   | .next=>(aP (af P0 (n+1)) [some (.bytes l),some (.int k),some (.bytes []),some (.loc σ.length)] (b9.drop 1) σ1).bind λ(f2,_,σ2)=>match f2 with
    | .ret v=>some (v,σ2)
    |_=>none
   |_=>none
 else none
noncomputable def o8:List MS:=match(HG[4]? :Option MS) with|some (.for _ _ b)=>b|_=>[]
noncomputable def wK:List MS:=o8.take 3
noncomputable def rV:List MS:=o8.drop 4
noncomputable def iT:ME:= .ite (.cmp (.item (.item (.var 11) (.lit (.str 117))) (.lit (.int 0))) .eq (.lit (.int 2))) (.lit (.int 2048)) (.lit (.int 34525))
noncomputable def wL(n:Nat)(ρ:Env)(σ:aa):Option (V × aa):=
 match(ρ[13]? :Option (Option V)) with
 |some (some (.bytes l))=>(aH (af P0 (n+2)) ρ iT σ).bind λ(kv,σ1)=>match kv with
  | .int k=>(kJ n l k σ1).bind λ(pv,σ2)=>(jU (af P0 (n+2)) ρ [.dict [],.var 8] σ2).bind λ(vs,σ3)=>
   (af P0 (n+2) 53 (.loc σ3.length::pv::vs) (σ3++[.inst 53 []])).bind λ(r,Uz)=>match r with
    | .none=>some (.loc σ3.length,Uz)
    |_=>none
  |_=>none
 |_=>none
noncomputable def o9(n:Nat)(ρ:Env)(σ:aa):Option (Fl × Env × aa):=
 (aP (af P0 (n+2)) ρ wK σ).bind λ(f,ρ,σ)=>match f with
  | .next=>(wL n ρ σ).bind λ(v,σ)=>aP (af P0 (n+2)) (ρ.set 14 (some v)) rV σ
  |f=>some (f,ρ,σ)
noncomputable def Af(n:Nat)(script:List Int):Option (Fl × Env × aa):=
 (kI KS [.lst (script.map .int)]).bind λρ=>(aP (af P0 (n+2)) ρ (HG.take 4) []).bind λ(f,ρ,σ)=>match f with
  | .next=>(g6 (o9 n) (λρ v=>some (ρ.set 9 (some v))) (λ_=>true) (upTo 0 8) ρ σ).bind λ(f,ρ,σ)=>match f with
   | .next=>some (.ret (.bool true),ρ,σ)
   |f=>some (f,ρ,σ)
  |f=>some (f,ρ,σ)
noncomputable def N1:Option (Fl × Env × aa)→Bool
 |some (.ret (.bool true),_,_)=>true
 |_=>false
noncomputable def W2(x:Nat):Nat:=(x*6364136223846793005+1442695040888963407)%18446744073709551616
noncomputable def Zm(seed len:Nat):List Int:=(List.range len).foldl (λ(a:List Int × Nat) _=>let y:=W2 a.2;(a.1++[((y/65536%200:Nat):Int)],y)) ([],seed) |>.1
open PySem PySem.W PySem.Calls PyProof.Rows
noncomputable abbrev Mu:=List (Addr × Addr)
noncomputable def bL(μ:Mu)(b:Addr):Prop:=∃p∈μ,b=p.1∨b=p.2
theorem uJ{μ:Mu}{P:Addr × Addr→Prop}:∃t,μ=μ++t∧∀p∈t,P p:=⟨[],(List.append_nil _).symm,K4⟩
structure Ctx where
 prog:Program
 w:World
 K:Frag
 FA:Nat→Addr
 CA:Nat→Addr
 NM:Nat→Str
 h0:Heap
 D8:OsState
noncomputable abbrev EG(az:Array Value)(n:Nat):Obj:={cls:= .type "tuple",data:= .seq az n}
noncomputable abbrev j7(az:Array Value)(n:Nat):Obj:={cls:= .type "list",data:= .seq az n}
noncomputable abbrev cL(b:Array UInt8):Obj:={cls:= .type "bytearray",data:= .bytearray b 0}
noncomputable abbrev gF(es:Array DictEntry)(n:Nat):Obj:={cls:= .type "dict",data:= .dict es n}
noncomputable abbrev Ag(n:Int)(t u v:Tok):Obj:={cls:= .type "range",data:= .fields #[.int 0 t,.int n u,.int 1 v]}
mutual
noncomputable def VR(X:Ctx)(μ:Mu)(h:Heap):V→Value→Prop
 | .none,v=>v=.none
 | .bool b,v=>v=.bool b
 | .int i,v=>∃t,v=.int i t
 | .str n,v=>n<aO.length∧∃t,v=.str (X.NM n) t
 | .bytes l,v=>∃arr t,v=.bytes arr t∧arr.toList.map (·.toNat)=l
 | .aM l,v=>∃a arr,v=.ref a∧¬bL μ a∧h.get? a=some (cL arr)∧arr.toList.map (·.toNat)=l
 | .tup l,v=>∃a az n,v=.ref a∧¬bL μ a∧h.get? a=some (EG az n)∧bN X μ h l az.toList
 | .lst l,v=>∃a az n,v=.ref a∧¬bL μ a∧h.get? a=some (j7 az n)∧bN X μ h l az.toList
 | .rJ i,v=>∃a t u x,v=.ref a∧¬bL μ a∧h.get? a=some (Ag i t u x)
 | .fn f,v=>v=.ref (X.FA f)
 | .cl c,v=>v=.ref (X.CA c)∧c∈lI
 | .loc l,v=>∃p,μ[l]? =some p∧v=.ref p.1
noncomputable def bN(X:Ctx)(μ:Mu)(h:Heap):List V→List Value→Prop
 | [],vs=>vs=[]
 |x::r,vs=>∃y q,vs=y::q∧VR X μ h x y∧bN X μ h r q
end
section
variable {X:Ctx} {μ:Mu} {h:Heap} {P:Value→Prop} {x:Value}
@[elab_as_elim] theorem VR.qs{l:Nat}(g:VR X μ h (.loc l) x)(k:∀p,μ[l]? =some p→P (.ref p.1)):P x:=aA g λp hp e=>e▸k p hp
@[elab_as_elim] theorem VR.gf{i:Int}(g:VR X μ h (.int i) x)(k:∀t,P (.int i t)):P x:=bK g λp e=>e▸k p
@[elab_as_elim] theorem VR.EH{n:Nat}(g:VR X μ h (.str n) x)(k:n<aO.length→∀t,P (.str (X.NM n) t)):P x:=bK g.2 λp e=>e▸k g.1 p
@[elab_as_elim] theorem VR.qu{l:List V}(g:VR X μ h (.lst l) x)(k:∀a az n,¬bL μ a→h.get? a=some (j7 az n)→bN X μ h l az.toList→P (.ref a)):P x:=jN g λa i n e h1 h2 h3=>e▸k a i n h1 h2 h3
@[elab_as_elim] theorem VR.uK{l:List V}(g:VR X μ h (.tup l) x)(k:∀a az n,¬bL μ a→h.get? a=some (EG az n)→bN X μ h l az.toList→P (.ref a)):P x:=jN g λa i n e h1 h2 h3=>e▸k a i n h1 h2 h3
@[elab_as_elim] theorem VR.BH{l:List Nat}(g:VR X μ h (.aM l) x)(k:∀a arr,¬bL μ a→h.get? a=some (cL arr)→arr.toList.map (·.toNat)=l→P (.ref a)):P x:=nP g λa i e h1 h2 h3=>e▸k a i h1 h2 h3
@[elab_as_elim] theorem VR.HQ{i:Int}(g:VR X μ h (.rJ i) x)(k:∀a t u y,¬bL μ a→h.get? a=some (Ag i t u y)→P (.ref a)):P x:=Rp g λa t u y e h1 h2=>e▸k a t u y h1 h2
@[elab_as_elim] theorem VR.EK{l:List Nat}(g:VR X μ h (.bytes l) x)(k:∀arr t,arr.toList.map (·.toNat)=l→P (.bytes arr t)):P x:=oA g λa t e h1=>e▸k a t h1
@[elab_as_elim] theorem VR.vc{b:Bool}(g:VR X μ h (.bool b) x)(k:P (.bool b)):P x:=(g:x=.bool b)▸k
@[elab_as_elim] theorem VR.yl(g:VR X μ h .none x)(k:P .none):P x:=(g:x=.none)▸k
end
@[elab_as_elim] theorem bN.eC{X:Ctx}{μ:Mu}{h:Heap}{v:V}{r:List V}{x:List Value}{P:List Value→Prop}(g:bN X μ h (v::r) x)(k:∀y q,VR X μ h v y→bN X μ h r q→P (y::q)):P x:=fj g λy q e h1 h2=>e▸k y q h1 h2
@[elab_as_elim] theorem bN.eN{X:Ctx}{μ:Mu}{h:Heap}{x:List Value}{P:List Value→Prop}(g:bN X μ h [] x)(k:P []):P x:=(g:x=[])▸k
structure cU(μ bA:Mu)(h h':Heap):Prop where
 pre:∃t,bA=μ++t∧∀p∈t,h.get? p.1=none∧h.get? p.2=none
 keep:∀b o,¬bL μ b→h.get? b=some o→h'.get? b=some o
 live:∀b o,bL μ b→h.get? b=some o→∃o',h'.get? b=some o'
noncomputable def fc(o:Obj):Bool:=match o.data with
 | .seq .. =>true
 | .bytearray .. =>true
 | .fields _=>o.cls== .type "range"
 |_=>false
structure gG(μ bA:Mu)(h h':Heap):Prop where
 pre:∃t,bA=μ++t∧∀p∈t,∀o,(h.get? p.1=some o∨h.get? p.2=some o)→fc o=false
 keep:∀b o,¬bL μ b→h.get? b=some o→fc o=true→h'.get? b=some o
theorem cU.v{μ bA:Mu}{h h':Heap}(e:cU μ bA h h'):gG μ bA h h':=by
 refine⟨?_,λb o n g _=>e.keep b o n g⟩
 refine aA e.pre λt h1 h2=>?_
 exact⟨t,h1,λp hp o ho=>by rcases ho with q|q<;>simp[h2 p hp] at q⟩
theorem vd{μ t:Mu}{b:Addr}:bL (μ++t) b↔bL μ b∨bL t b:=by
 constructor
 ·rintro⟨p,hp,hb⟩
  rcases List.mem_append.mp hp with h|h
  ·exact .inl ⟨p,h,hb⟩
  ·exact .inr ⟨p,h,hb⟩
 ·rintro(⟨p,hp,hb⟩|⟨p,hp,hb⟩)
  ·exact⟨p,List.mem_append_left _ hp,hb⟩
  ·exact⟨p,List.mem_append_right _ hp,hb⟩
theorem iL{μ t:Mu}{b:Addr}{g:Heap}{o:Obj}(h:¬bL μ b)(hb:g.get? b=some o)(ht:∀p∈t,g.get? p.1=none∧g.get? p.2=none):¬bL (μ++t) b:=by
 rw[vd]
 rintro(x|⟨p,hp,x|x⟩)
 ·exact h x
 ·rw[x,(ht p hp).1] at hb;cases hb
 ·rw[x,(ht p hp).2] at hb;cases hb
theorem gG.eV{μ bA:Mu}{h h':Heap}(e:gG μ bA h h'){b:Addr}{o:Obj}(n:¬bL μ b)(g:h.get? b=some o)(nd:fc o=true):¬bL bA b:=by
 refine aA e.pre λt bP ht=>?_
 refine ay bP ?_
 rw[vd]
 rintro(x|⟨p,hp,x|x⟩)
 ·exact n x
 ·subst x;rw[ht p hp o (.inl g)] at nd;cases nd
 ·subst x;rw[ht p hp o (.inr g)] at nd;cases nd
theorem cU.eV{μ bA:Mu}{h h':Heap}(e:cU μ bA h h'){b:Addr}{o:Obj}(n:¬bL μ b)(g:h.get? b=some o):¬bL bA b:=by
 refine aA e.pre λt bP ht=>?_
 refine ay bP ?_
 exact iL n g ht
theorem gG.get{μ bA:Mu}{h h':Heap}(e:gG μ bA h h'){l:Nat}{p:Addr × Addr}(g:μ[l]? =some p):bA[l]? =some p:=by
 refine aA e.pre λt bP _=>?_
 refine ay bP ?_
 refine ay (List.getElem?_append_left (eY g).1) ?_
 exact g
theorem cU.get{μ bA:Mu}{h h':Heap}(e:cU μ bA h h'){l:Nat}{p:Addr × Addr}(g:μ[l]? =some p):bA[l]? =some p:=e.v.get g
theorem cU.refl{μ:Mu}{h:Heap}:cU μ μ h h:=⟨uJ,λ_ _ _ g=>g,λ_ o _ g=>⟨o,g⟩⟩
theorem cU.alive{μ bA:Mu}{h h':Heap}(e:cU μ bA h h'){b:Addr}{o:Obj}(g:h.get? b=some o):∃o',h'.get? b=some o':=by
 by_cases q:bL μ b
 ·exact e.live b o q g
 ·exact⟨o,e.keep b o q g⟩
theorem cU.dead{μ bA:Mu}{h h':Heap}(e:cU μ bA h h'){b:Addr}(g:h'.get? b=none):h.get? b=none:=by
 cases q:h.get? b with
 |none=>rfl
 |some o=>obtain⟨o',g'⟩:=e.alive q;exact sN g' g
theorem cU.trans{ao bB dP:Mu}{h₁ h₂ h₃:Heap}(a:cU ao bB h₁ h₂)(b:cU bB dP h₂ h₃):cU ao dP h₁ h₃:=by
 refine⟨?_,λx o n g=>b.keep x o (a.eV n g) (a.keep x o n g),λx o n g=>?_⟩
 ·refine aA a.pre λt bP ht=>?_
  subst bP
  refine aA b.pre λu bP hu=>?_
  refine ay bP ?_
  refine⟨t++u,List.append_assoc ..,λp hp=>?_⟩
  rcases List.mem_append.mp hp with q|q
  ·exact ht p q
  ·exact⟨a.dead (hu p q).1,a.dead (hu p q).2⟩
 ·refine bK (a.alive g) λo' g'=>?_
  exact b.alive g'
theorem cU.more{μ:Mu}{h h':Heap}(k:∀b o,h.get? b=some o→h'.get? b=some o):cU μ μ h h':=
 ⟨uJ,λb o _ g=>k b o g,λb o _ g=>⟨o,k b o g⟩⟩
theorem vf(i:Int)(t u v:Tok):fc (Ag i t u v)=true:=by simp[fc]
theorem VR.bI{X:Ctx}{μ bA:Mu}{h h':Heap}(e:gG μ bA h h')(v:V):∀(x:Value),VR X μ h v x→VR X bA h' v x:=
 V.rec (motive_1:=λv=>∀x,VR X μ h v x→VR X bA h' v x) (motive_2:=λl=>∀x,bN X μ h l x→bN X bA h' l x)
  (λ_ g=>g) (λ_ _ g=>g) (λ_ _ g=>g) (λ_ _ g=>g) (λ_ _ g=>g)
  (λl x g=>VR.BH g λa arr n ho hl=>⟨a,arr,rfl,e.eV n ho rfl,e.keep a _ n ho rfl,hl⟩)
  (λl ih x g=>VR.uK g λa az k n ho hl=>⟨a,az,k,rfl,e.eV n ho rfl,e.keep a _ n ho rfl,ih _ hl⟩)
  (λl ih x g=>VR.qu g λa az k n ho hl=>⟨a,az,k,rfl,e.eV n ho rfl,e.keep a _ n ho rfl,ih _ hl⟩)
  (λi x g=>VR.HQ g λa t u y n ho=>⟨a,t,u,y,rfl,e.eV n ho (vf _ _ _ _),e.keep a _ n ho (vf _ _ _ _)⟩)
  (λ_ _ g=>g) (λ_ _ g=>g)
  (λl x g=>VR.qs g λp hp=>⟨p,e.get hp,rfl⟩)
  (λ_ g=>g) (λv r h1 h2 x g=>bN.eC g λy q a b=>⟨y,q,rfl,h1 y a,h2 q b⟩) v
theorem bN.bI{X:Ctx}{μ bA:Mu}{h h':Heap}(e:gG μ bA h h')(v:List V):∀(x:List Value),bN X μ h v x→bN X bA h' v x:=by
 induction v with
 |nil=>exact λ_ g=>g
 |cons v r ih=>exact λx g=>bN.eC g λy q a b=>⟨y,q,rfl,VR.bI e v y a,ih q b⟩
theorem VR.mono{X:Ctx}{μ bA:Mu}{h h':Heap}(e:cU μ bA h h'){v:V}{x:Value}(g:VR X μ h v x):VR X bA h' v x:=VR.bI e.v v x g
theorem bN.mono{X:Ctx}{μ bA:Mu}{h h':Heap}(e:cU μ bA h h'){v:List V}{x:List Value}(g:bN X μ h v x):bN X bA h' v x:=bN.bI e.v v x g
section
variable {X:Ctx} {μ:Mu} {h:Heap} {v w:List V}
theorem bN.length:∀{x:List Value},bN X μ h v x→v.length=x.length:=by
 induction v with
 |nil=>exact λ{x} g=>bN.eN g rfl
 |cons v r ih=>exact λ{x} g=>bN.eC g λ_ _ _ b=>aj Nat.succ (ih b)
theorem bN.at{u:V}:∀{x:List Value}{i:Nat},bN X μ h v x→v[i]? =some u→∃y,x[i]? =some y∧VR X μ h u y:=by
 induction v with
 |nil=>exact λ{x i} _ e=>fY (List.getElem?_nil.symm.trans e)
 |cons v r ih=>exact λ{x i} g=>bN.eC g λy q a b=>i.casesOn (λe=>⟨y,rfl,aX e▸a⟩) λi e=>(ih b e:)
theorem bN.app{x y:List Value}(g:bN X μ h v x)(e:bN X μ h w y):bN X μ h (v++w) (x++y):=by
 induction v generalizing x with
 |nil=>exact bN.eN g e
 |cons v r ih=>exact bN.eC g λz q a b=>⟨z,q++y,rfl,a,ih b⟩
theorem bN.drop:∀{x:List Value}(n:Nat),bN X μ h v x→bN X μ h (v.drop n) (x.drop n):=by
 induction v with
 |nil=>exact λ{x} n g=>bN.eN g (ay List.drop_nil (ay List.drop_nil rfl))
 |cons v r ih=>exact λ{x} n g=>n.casesOn g λn=>bN.eC g λz q a b=>(ih n b:)
theorem bN.take:∀{x:List Value}(n:Nat),bN X μ h v x→bN X μ h (v.take n) (x.take n):=by
 induction v with
 |nil=>exact λ{x} n g=>bN.eN g (ay List.take_nil (ay List.take_nil rfl))
 |cons v r ih=>exact λ{x} n g=>n.casesOn rfl λn=>bN.eC g λz q a b=>⟨z,q.take n,rfl,a,ih n b⟩
theorem bN.set{x:List Value}(n:Nat){u:V}{z:Value}(g:bN X μ h v x)(e:VR X μ h u z):bN X μ h (v.set n u) (x.set n z):=by
 induction v generalizing x n with
 |nil=>exact bN.eN g rfl
 |cons v r ih=>exact n.casesOn (bN.eC g λy q a b=>⟨z,q,rfl,e,b⟩) λn=>bN.eC g λy q a b=>⟨y,q.set n z,rfl,a,ih n b⟩
end
noncomputable def wM(k:Int × List Int):Int:=reduceHash (Builtin.Tuple.tupleHashOf [hashInt k.1,reduceHash (Builtin.Tuple.tupleHashOf (k.2.map hashInt))])
noncomputable def pn(k:Int × List Int):V:= .tup [.int k.1,.tup (k.2.map .int)]
noncomputable abbrev BI:=List ((Int × List Int) × Addr × Value)
noncomputable def wN(x:(Int × List Int) × Addr × Value):DictEntry:=⟨wM x.1,.ref x.2.1,x.2.2⟩
noncomputable def jb{K:Type}(rel:V→K→Prop)(vr:V→Value→Prop):List (V × V)→List (K × Value)→Prop
 | [],ds=>ds=[]
 |(k,v)::r,ds=>∃j x q,ds=(j,x)::q∧rel k j∧vr v x∧jb rel vr r q
noncomputable def kL(X:Ctx)(μ:Mu)(h:Heap):List (V × V)→BI→Prop
 | [],ds=>ds=[]
 |(k,v)::r,ds=>∃j a x q,ds=(j,a,x)::q∧k=pn j∧VR X μ h k (.ref a)∧VR X μ h v x∧kL X μ h r q
@[elab_as_elim] theorem jb.eC{K:Type}{rel:V→K→Prop}{vr:V→Value→Prop}{p:V × V}{r:List (V × V)}{x:List (K × Value)}{P:List (K × Value)→Prop}(g:jb rel vr (p::r) x)(k:∀j y q,rel p.1 j→vr p.2 y→jb rel vr r q→P ((j,y)::q)):P x:=jN g λj y q e h1 h2 h3=>e▸k j y q h1 h2 h3
@[elab_as_elim] theorem kL.eC{X:Ctx}{μ:Mu}{h:Heap}{p:V × V}{r:List (V × V)}{x:BI}{P:BI→Prop}(g:kL X μ h (p::r) x)(k:∀j a y q,p.1=pn j→VR X μ h p.1 (.ref a)→VR X μ h p.2 y→kL X μ h r q→P ((j,a,y)::q)):P x:=Es g λj a y q e h1 h2 h3 h4=>e▸k j a y q h1 h2 h3 h4
noncomputable def sP(k:V)(j:Int):Prop:=k=.int j
noncomputable def rK(X:Ctx)(k:V)(j:Str):Prop:=∃n,n<aO.length∧k=.str n∧X.NM n=j
theorem jb.mono{K:Type}{rel:V→K→Prop}{vr vr':V→Value→Prop}(m:∀v x,vr v x→vr' v x){es:List (V × V)}:∀{ds:List (K × Value)},jb rel vr es ds→jb rel vr' es ds:=by
 induction es with
 |nil=>exact λ{ds} g=>g
 |cons p r ih=>exact λ{ds} g=>jb.eC g λj x q a b c=>⟨j,x,q,rfl,a,m _ _ b,ih c⟩
theorem kL.bI{X:Ctx}{μ bA:Mu}{h h':Heap}(e:gG μ bA h h'){es:List (V × V)}:∀{ds:BI},kL X μ h es ds→kL X bA h' es ds:=by
 induction es with
 |nil=>exact λ{ds} g=>g
 |cons p r ih=>exact λ{ds} g=>kL.eC g λj a x q b c d f=>⟨j,a,x,q,rfl,b,VR.bI e _ _ c,VR.bI e _ _ d,ih f⟩
noncomputable def fy(X:Ctx)(μ:Mu)(h:Heap)(a:Addr):Nat→List (V × V)→Prop
 |0,es=>es=[]∧∃n,h.get? a=some (gF #[] n)
 |1,es=>∃kvs,h.DictOf (intKind X.prog X.w) a kvs∧jb sP (VR X μ h) es kvs
 |2,es=>∃kvs,h.DictOf (strKind X.prog X.w) a kvs∧jb (rK X) (VR X μ h) es kvs
 |3,es=>∃ds n xs,h.get? a=some (gF ds n)∧ds.toList=xs.map wN∧(xs.map (·.1)).Nodup∧kL X μ h es xs
 |_,_=>False
noncomputable def mJ(X:Ctx)(μ:Mu)(h:Heap):List (Nat × V)→List DictEntry→Prop
 | [],ds=>ds=[]
 |(n,v)::r,ds=>∃d q,ds=d::q∧(∃t,d.key=.str (X.NM n) t)∧VR X μ h v d.val∧mJ X μ h r q
@[elab_as_elim] theorem mJ.eC{X:Ctx}{μ:Mu}{h:Heap}{p:Nat × V}{r:List (Nat × V)}{x:List DictEntry}{P:List DictEntry→Prop}(g:mJ X μ h (p::r) x)(k:∀d q,(∃t,d.key=.str (X.NM p.1) t)→VR X μ h p.2 d.val→mJ X μ h r q→P (d::q)):P x:=nP g λd q e h1 h2 h3=>e▸k d q h1 h2 h3
noncomputable def OR(X:Ctx)(μ:Mu)(h:Heap)(p:Addr × Addr):O→Prop
 | .list vs=>p.2=p.1∧∃az n,h.get? p.1=some (j7 az n)∧bN X μ h vs az.toList
 | .dict k es=>p.2=p.1∧fy X μ h p.1 k es
 | .inst c fs=>p.1≠p.2∧∃ds n,h.get? p.1=some (instObj (X.CA c) p.2)∧h.get? p.2=some (gF ds n)∧mJ X μ h fs ds.toList∧c∈lI∧fs.all (λf=>bW.contains f.1)=true
theorem vg{o:Obj}{ds:Array DictEntry}{n:Nat}(x:o.ExactDict)(e:o.data=.dict ds n):o=gF ds n:=by
 obtain⟨c,dt,d,sl⟩:=o
 obtain⟨x,y,z⟩:=x
 dsimp only at x y z e
 subst x y z e;rfl
theorem vh{K:Type} [DecidableEq K]{prog:Program}{w:World}{knd:KeyKind prog w K}{h h':Heap}{a:Addr}{kvs:List (K × Value)}(e:h'.get? a=h.get? a)(d:h.DictOf knd a kvs):h'.DictOf knd a kvs:=
 HL d λo es ep ho r=>⟨o,es,ep,e.trans ho,r⟩
theorem fy.bI{X:Ctx}{μ bA:Mu}{h h':Heap}{a:Addr}(e:gG μ bA h h')(h1:h'.get? a=h.get? a){k:Nat}{es:List (V × V)}(g:fy X μ h a k es):fy X bA h' a k es:=by
 rcases k with _|_|_|_|_
 ·exact⟨g.1,bK g.2 λn g=>⟨n,h1.trans g⟩⟩
 ·exact aA g λkvs d p=>⟨kvs,vh h1 d,p.mono λv x=>VR.bI e v x⟩
 ·exact aA g λkvs d p=>⟨kvs,vh h1 d,p.mono λv x=>VR.bI e v x⟩
 ·exact jN g λds n xs g q nd t=>⟨ds,n,xs,h1.trans g,q,nd,t.bI e⟩
 ·exact g.elim
theorem sQ{K:Type} [DecidableEq K]{prog:Program}{w:World}{knd:KeyKind prog w K}{h:Heap}{a:Addr}{kvs:List (K × Value)}(d:h.DictOf knd a kvs):∃ds n,h.get? a=some (gF ds n):=jN d λo es ep ho x q _=>⟨es,ep,ho.trans (aj some (vg x q))⟩
theorem fy.obj{X:Ctx}{μ:Mu}{h:Heap}{a:Addr}{k:Nat}{es:List (V × V)}(g:fy X μ h a k es):∃ds n,h.get? a=some (gF ds n):=by
 rcases k with _|_|_|_|_
 ·exact bK g.2 λn g=>⟨_,n,g⟩
 ·exact aA g λkvs d _=>sQ d
 ·exact aA g λkvs d _=>sQ d
 ·exact HL g λds n _ g _=>⟨ds,n,g⟩
 ·exact g.elim
theorem mJ.bI{X:Ctx}{μ bA:Mu}{h h':Heap}(e:gG μ bA h h'){es:List (Nat × V)}:∀{ds:List DictEntry},mJ X μ h es ds→mJ X bA h' es ds:=by
 induction es with
 |nil=>exact λ{ds} g=>g
 |cons p r ih=>exact λ{ds} g=>mJ.eC g λd q a c f=>⟨d,q,rfl,a,VR.bI e _ _ c,ih f⟩
theorem OR.mono{X:Ctx}{μ bA:Mu}{h h':Heap}{p:Addr × Addr}(e:gG μ bA h h')(h1:h'.get? p.1=h.get? p.1)(h2:h'.get? p.2=h.get? p.2){o:O}(g:OR X μ h p o):OR X bA h' p o:=by
 cases o with
 |list=>exact⟨g.1,oA g.2 λaz n a b=>⟨az,n,h1.trans a,bN.bI e _ _ b⟩⟩
 |dict=>exact⟨g.1,fy.bI e h1 g.2⟩
 |inst=>exact⟨g.1,nP g.2 λds n a b c d=>⟨ds,n,h1.trans a,h2.trans b,c.bI e,d⟩⟩
theorem OR.alive{X:Ctx}{μ:Mu}{h:Heap}{p:Addr × Addr}{o:O}(g:OR X μ h p o):(∃o,h.get? p.1=some o)∧∃o,h.get? p.2=some o:=by
 cases o with
 |list=>exact oA g.2 λaz n a _=>⟨⟨_,a⟩,_,(aj h.get? g.1).trans a⟩
 |dict=>exact jo (fy.obj g.2) λ_ _ a=>⟨⟨_,a⟩,_,(aj h.get? g.1).trans a⟩
 |inst=>exact fj g.2 λds n a b _=>⟨⟨_,a⟩,_,b⟩
structure St(X:Ctx)(μ:Mu)(σ:aa)(s:Shared):Prop where
 len:μ.length=σ.length
 above:∀p∈μ,X.h0.get? p.1=none∧X.h0.get? p.2=none∧p.1≠sysModules
 main:∃o,X.h0.get? mainGlobals=some o
 sep:∀(i j:Nat)(p q:Addr × Addr),μ[i]? =some p→μ[j]? =some q→i≠j→p.1≠q.1∧p.1≠q.2∧p.2≠q.1∧p.2≠q.2
 obj:∀(i:Nat) o p,σ[i]? =some o→μ[i]? =some p→OR X μ s.heap p o
 base:∀b o,X.h0.get? b=some o→s.heap.get? b=some o
 gens:s.gens= #[]
 os:s.os=X.D8
theorem St.loc{X:Ctx}{μ:Mu}{σ:aa}{s:Shared}(S:St X μ σ s){l:Nat}{o:O}(e:σ[l]? =some o):∃p,μ[l]? =some p∧OR X μ s.heap p o:=by
 have hl:l<μ.length:=by rw[S.len];exact(eY e).1
 exact⟨μ[l],iw hl,S.obj l o _ e (iw hl)⟩
theorem St.alive{X:Ctx}{μ:Mu}{σ:aa}{s:Shared}(S:St X μ σ s){p:Addr × Addr}(hp:p∈μ):(∃o,s.heap.get? p.1=some o)∧∃o,s.heap.get? p.2=some o:=
 bK (List.mem_iff_getElem?.mp hp) λi e=>have hl:i<σ.length:=iN (eY e).1 S.len
  (S.obj i σ[i] p (iw hl) e).alive
theorem OR.more{X:Ctx}{μ bA:Mu}{h h':Heap}{p:Addr × Addr}{o:O}(k:∀b o,h.get? b=some o→h'.get? b=some o)(e:gG μ bA h h')(g:OR X μ h p o):OR X bA h' p o:=
 bK g.alive.1 λ_ l1=>bK g.alive.2 λ_ l2=>g.mono e ((k _ _ l1).trans l1.symm) ((k _ _ l2).trans l2.symm)
theorem St.more{X:Ctx}{μ:Mu}{σ:aa}{s s':Shared}(S:St X μ σ s)(k:∀b o,s.heap.get? b=some o→s'.heap.get? b=some o)
  (hg:s'.gens=s.gens:=by rfl)(ho:s'.os=s.os:=by rfl):St X μ σ s':=
 ⟨S.len,S.above,S.main,S.sep,λi o p e g=>(S.obj i o p e g).more k (cU.more k).v,λb o e=>k b o (S.base b o e),hg.trans S.gens,ho.trans S.os⟩
theorem rW{h:Heap}{a b:Addr}{o:Obj}(x:h.get? a=some o)(y:h.get? b=none):a≠b:=λe=>sN x (e▸y)
theorem nq{α:Type}{l:List α}{a b:α}{i:Nat}(h:(l++[a])[i]? =some b):l[i]? =some b∨(i=l.length∧b=a):=
 if li:i<l.length then .inl ((List.getElem?_append_left li).symm.trans h) else by
  have h2:=(List.getElem?_append_right (Nat.not_lt.mp li)).symm.trans h
  have e:i-l.length=0:=Nat.lt_one_iff.mp (eY h2).1
  exact .inr ⟨dH (Nat.sub_eq_zero_iff_le.mp e) (Nat.not_lt.mp li),(aX ((e▸h2:[a][0]? =some b))).symm⟩
theorem St.app{X:Ctx}{μ:Mu}{σ:aa}{s s':Shared}{p:Addr × Addr}{o:O}(S:St X μ σ s)(fr:∀q∈μ,q.1≠p.1∧q.1≠p.2∧q.2≠p.1∧q.2≠p.2)(ab:X.h0.get? p.1=none∧X.h0.get? p.2=none∧p.1≠sysModules)
  (ko:∀q∈μ,∀x,OR X μ s.heap q x→OR X (μ++[p]) s'.heap q x)(ho:OR X (μ++[p]) s'.heap p o)(hb:∀b o,X.h0.get? b=some o→s'.heap.get? b=some o)
  (hg:s'.gens=s.gens)(hos:s'.os=s.os):St X (μ++[p]) (σ++[o]) s':=
 ⟨by rw[eG,eG,S.len];rfl,λq hq=>(List.mem_append.mp hq).elim (S.above q) λz=>List.mem_singleton.mp z▸ab,S.main,
  λi j a b hi hj bT=>(nq hi).elim (λhi=>(nq hj).elim (λhj=>S.sep i j a b hi hj bT) λz=>z.2▸fr a (iy hi)) λy=>
   (nq hj).elim (λhj=>sJ (fr b (iy hj)) λq1 q2 q3 q4=>y.2▸⟨q1.symm,q3.symm,q2.symm,q4.symm⟩) λz=>absurd (y.1.trans z.1.symm) bT,
  λi x q hx hq=>(nq hx).elim (λhx=>(nq hq).elim (λhq=>ko q (iy hq) x (S.obj i x q hx hq)) λz=>absurd (eY hx).1 (Nat.not_lt.mpr (cG (S.len.symm.trans z.1.symm)))) λy=>
   (nq hq).elim (λhq=>absurd (eY hq).1 (Nat.not_lt.mpr (cG (S.len.trans y.1.symm)))) λz=>ay (P:=λq=>OR X (μ++[p]) s'.heap q x) z.2 (ay (P:=λx=>OR X (μ++[p]) s'.heap p x) y.2 ho),
  hb,hg.trans S.gens,hos.trans S.os⟩
theorem none_of{h h':Heap}(k:∀b o,h.get? b=some o→h'.get? b=some o){a:Addr}(e:h'.get? a=none):h.get? a=none:=by
 cases q:h.get? a with
 |none=>rfl
 |some o=>exact sN (k _ _ q) e
theorem St.cell{X:Ctx}{μ:Mu}{σ:aa}{s s':Shared}{p:Addr × Addr}{o:O}(S:St X μ σ s)(k:∀b o,s.heap.get? b=some o→s'.heap.get? b=some o)
  (g1:s.heap.objs.size≤p.1)(g2:s.heap.objs.size≤p.2)(ho:OR X (μ++[p]) s'.heap p o)
  (hg:s'.gens=s.gens:=by rfl)(hos:s'.os=s.os:=by rfl):St X (μ++[p]) (σ++[o]) s'∧cU μ (μ++[p]) s.heap s'.heap:=by
 have h1:=kC g1
 have h2:=kC g2
 have E:cU μ (μ++[p]) s.heap s'.heap:=⟨⟨[p],rfl,all1 ⟨h1,h2⟩⟩,λb o _ g=>k b o g,λb o _ g=>⟨o,k b o g⟩⟩
 refine⟨S.app (λq hq=>?_) ⟨none_of S.base h1,none_of S.base h2,?_⟩ (λq _ x g=>g.more k E.v) ho (λb o e=>k b o (S.base b o e)) hg hos,E⟩
 ·exact bK (S.alive hq).1 λ_ l1=>bK (S.alive hq).2 λ_ l2=>⟨rW l1 h1,rW l1 h2,rW l2 h1,rW l2 h2⟩
 ·exact bK S.main λo e=>Nat.ne_of_gt (Nat.lt_of_lt_of_le (Nat.lt_trans (aD rfl:sysModules<mainGlobals) (dh (S.base _ _ e))) g1)
theorem St.turn{X:Ctx}{μ:Mu}{σ:aa}{s s':Shared}{p:Addr × Addr}{l:Nat}{o:O}(S:St X μ σ s)(hp:μ[l]? =some p)
  (k:∀b,b≠p.1→b≠p.2→s'.heap.get? b=s.heap.get? b)(al:(∃o,s'.heap.get? p.1=some o)∧∃o,s'.heap.get? p.2=some o)(ho:gG μ μ s.heap s'.heap→OR X μ s'.heap p o)
  (hg:s'.gens=s.gens:=by rfl)(hos:s'.os=s.os:=by rfl):St X μ (σ.set l o) s'∧cU μ μ s.heap s'.heap:=by
 have hm:=iy hp
 have E:cU μ μ s.heap s'.heap:=⟨uJ,λb o n g=>(k b (λq=>n ⟨p,hm,.inl q⟩) (λq=>n ⟨p,hm,.inr q⟩)).trans g,λb o _ g=>
  if h1:b=p.1 then h1▸al.1 else if h2:b=p.2 then h2▸al.2 else⟨o,(k b h1 h2).trans g⟩⟩
 refine⟨⟨S.len.trans List.length_set.symm,S.above,S.main,S.sep,λi x q hx hq=>?_,λb o e=>?_,hg.trans S.gens,hos.trans S.os⟩,E⟩
 ·exact if hi:l=i then by
    subst hi
    have hx:=(List.getElem?_set_self (iN (eY hx).1 List.length_set)).symm.trans hx
    exact aX hx▸sU hp hq▸ho E.v
   else
    sJ (S.sep i l q p hq hp (Ne.symm hi)) λd1 d2 d3 d4=>OR.mono E.v (k _ d1 d2) (k _ d3 d4) (S.obj i x q ((List.getElem?_set_ne hi).symm.trans hx) hq)
 ·exact(k b (λq=>sN (q▸e) (S.above p hm).1) (λq=>sN (q▸e) (S.above p hm).2.1)).trans (S.base b o e)
theorem St.fill{X:Ctx}{μ:Mu}{σ:aa}{s s':Shared}{p:Addr × Addr}{o:O}(S:St X μ σ s)(n1:¬bL μ p.1)(n2:¬bL μ p.2)(z1:X.h0.get? p.1=none)(z2:X.h0.get? p.2=none)(z3:p.1≠sysModules)
  (k:∀b,b≠p.1→b≠p.2→s'.heap.get? b=s.heap.get? b)(E:gG μ (μ++[p]) s.heap s'.heap)(ho:OR X (μ++[p]) s'.heap p o)
  (hg:s'.gens=s.gens:=by rfl)(hos:s'.os=s.os:=by rfl):St X (μ++[p]) (σ++[o]) s':=
 have ne:∀q∈μ,q.1≠p.1∧q.1≠p.2∧q.2≠p.1∧q.2≠p.2:=λq hq=>⟨λe=>n1 ⟨q,hq,.inl e.symm⟩,λe=>n2 ⟨q,hq,.inl e.symm⟩,λe=>n1 ⟨q,hq,.inr e.symm⟩,λe=>n2 ⟨q,hq,.inr e.symm⟩⟩
 S.app ne ⟨z1,z2,z3⟩ (λq hq x g=>sJ (ne q hq) λd1 d2 d3 d4=>g.mono E (k _ d1 d2) (k _ d3 d4)) ho (λb o e=>(k b (λq=>sN (q▸e) z1) (λq=>sN (q▸e) z2)).trans (S.base b o e)) hg hos
noncomputable def BJ:Bi→Value
 | .len=> .builtin "len"| .range=> .type "range"| .bytes=> .type "bytes"| .bytearray=> .type "bytearray"| .list=> .type "list"| .sorted=> .builtin "sorted"
theorem eS{c:Prop} [Decidable c]{f:c→Bool}(h:(if h:c then f h else false)=true):c:=by
 by_cases q:c
 ·exact q
 ·cases(dif_neg q).symm.trans h
@[elab_as_elim] theorem pq{α:Type}{P:Option α→Prop}{o:Option α}{f:α→Bool}(h:uY o f=true)(k:∀a,f a=true→P (some a)):P o:=by
 cases o with
 |none=>exact nB h
 |some a=>exact k a h
@[elab_as_elim] theorem pA{α:Type}{P:Option α→Prop}{o:Option α}{b:Bool}(h:uZ o b=true)(k:b=true→P none):P o:=by
 cases o with
 |none=>exact k h
 |some a=>exact nB h
@[elab_as_elim] theorem cK{α:Type}{P:List α→Prop}{l:List α}{f:α→List α→Bool}(h:fH l f=true)(k:∀a r,f a r=true→P (a::r)):P l:=by
 cases l with
 |nil=>exact nB h
 |cons a r=>exact k a r h
@[elab_as_elim] theorem cg{α:Type}{P:List α→Prop}{l:List α}{b:Bool}(h:gi l b=true)(k:b=true→P []):P l:=by
 cases l with
 |nil=>exact k h
 |cons a r=>exact nB h
@[elab_as_elim] theorem HR{P:Int→Prop}{i:Int}{b:Bool}(h:v0 i b=true)(k:b=true→P 0):P i:=by
 obtain⟨h1,h2⟩:=bZ h
 refine ay (dw h1) (?_)
 exact k h2
@[elab_as_elim] theorem rX{P:Comprehension→Prop}{c:Comprehension}{f:Expr→Expr→List Expr→Int→Bool}(h:yf c f=true)(k:∀a b c d,f a b c d=true→P ⟨a,b,c,d⟩):P c:=by
 cases c
 exact k _ _ _ _ h
@[elab_as_elim] theorem HS{P:UnaryOp→Prop}{o:UnaryOp}{b:Bool}(h:JO o b=true)(k:b=true→P .USub):P o:=by
 cases o<;>first|exact k h|exact nB h
@[elab_as_elim] theorem K5{P:UnaryOp→Prop}{o:UnaryOp}{b:Bool}(h:NC o b=true)(k:b=true→P .Not):P o:=by
 cases o<;>first|exact k h|exact nB h
@[elab_as_elim] theorem K6{P:BoolOp→Prop}{o:BoolOp}{b:Bool}(h:ND o b=true)(k:b=true→P .And):P o:=by
 cases o<;>first|exact k h|exact nB h
@[elab_as_elim] theorem N2{P:BoolOp→Prop}{o:BoolOp}{b:Bool}(h:Uu o b=true)(k:b=true→P .Or):P o:=by
 cases o<;>first|exact k h|exact nB h
@[elab_as_elim] theorem bD{P:Expr→Prop}{e:Expr}{f:Str→Pos→Bool}(h:bX e f=true)(k:∀a0 a1,f a0 a1=true→P (.Name a0 a1)):P e:=Expr.Name.elim (motive_1:=λe=>bX e f=true→P e) e (eS h) (λa0 a1 h=>k a0 a1 h) h
@[elab_as_elim] theorem fL{P:Expr→Prop}{e:Expr}{f:Expr→Str→Pos→Bool}(h:eU e f=true)(k:∀a0 a1 a2,f a0 a1 a2=true→P (.Attribute a0 a1 a2)):P e:=Expr.Attribute.elim (motive_1:=λe=>eU e f=true→P e) e (eS h) (λa0 a1 a2 h=>k a0 a1 a2 h) h
@[elab_as_elim] theorem bU{P:Expr→Prop}{e:Expr}{f:Expr→Expr→Pos→Bool}(h:bY e f=true)(k:∀a0 a1 a2,f a0 a1 a2=true→P (.Subscript a0 a1 a2)):P e:=Expr.Subscript.elim (motive_1:=λe=>bY e f=true→P e) e (eS h) (λa0 a1 a2 h=>k a0 a1 a2 h) h
@[elab_as_elim] theorem oF{P:Expr→Prop}{e:Expr}{f:(Option Expr)→(Option Expr)→(Option Expr)→Pos→Bool}(h:mC e f=true)(k:∀a0 a1 a2 a3,f a0 a1 a2 a3=true→P (.Slice a0 a1 a2 a3)):P e:=Expr.Slice.elim (motive_1:=λe=>mC e f=true→P e) e (eS h) (λa0 a1 a2 a3 h=>k a0 a1 a2 a3 h) h
@[elab_as_elim] theorem nu{P:Expr→Prop}{e:Expr}{f:Expr→(List Expr)→(List Keyword)→Pos→Bool}(h:ni e f=true)(k:∀a0 a1 a2 a3,f a0 a1 a2 a3=true→P (.Call a0 a1 a2 a3)):P e:=Expr.Call.elim (motive_1:=λe=>ni e f=true→P e) e (eS h) (λa0 a1 a2 a3 h=>k a0 a1 a2 a3 h) h
@[elab_as_elim] theorem uL{P:Expr→Prop}{e:Expr}{f:Const→Nat→Pos→Bool}(h:mD e f=true)(k:∀a0 a1 a2,f a0 a1 a2=true→P (.Constant a0 a1 a2)):P e:=Expr.Constant.elim (motive_1:=λe=>mD e f=true→P e) e (eS h) (λa0 a1 a2 h=>k a0 a1 a2 h) h
@[elab_as_elim] theorem Ah{P:Expr→Prop}{e:Expr}{f:Expr→Operator→Expr→Pos→Bool}(h:sy e f=true)(k:∀a0 a1 a2 a3,f a0 a1 a2 a3=true→P (.BinOp a0 a1 a2 a3)):P e:=Expr.BinOp.elim (motive_1:=λe=>sy e f=true→P e) e (eS h) (λa0 a1 a2 a3 h=>k a0 a1 a2 a3 h) h
@[elab_as_elim] theorem pC{P:Expr→Prop}{e:Expr}{f:UnaryOp→Expr→Pos→Bool}(h:lJ e f=true)(k:∀a0 a1 a2,f a0 a1 a2=true→P (.UnaryOp a0 a1 a2)):P e:=Expr.UnaryOp.elim (motive_1:=λe=>lJ e f=true→P e) e (eS h) (λa0 a1 a2 h=>k a0 a1 a2 h) h
@[elab_as_elim] theorem qY{P:Expr→Prop}{e:Expr}{f:BoolOp→(List Expr)→Pos→Bool}(h:nj e f=true)(k:∀a0 a1 a2,f a0 a1 a2=true→P (.BoolOp a0 a1 a2)):P e:=Expr.BoolOp.elim (motive_1:=λe=>nj e f=true→P e) e (eS h) (λa0 a1 a2 h=>k a0 a1 a2 h) h
@[elab_as_elim] theorem pF{P:Expr→Prop}{e:Expr}{f:Expr→(List CmpOp)→(List Expr)→Pos→Bool}(h:lK e f=true)(k:∀a0 a1 a2 a3,f a0 a1 a2 a3=true→P (.Compare a0 a1 a2 a3)):P e:=Expr.Compare.elim (motive_1:=λe=>lK e f=true→P e) e (eS h) (λa0 a1 a2 a3 h=>k a0 a1 a2 a3 h) h
@[elab_as_elim] theorem Ai{P:Expr→Prop}{e:Expr}{f:Expr→Expr→Expr→Pos→Bool}(h:sC e f=true)(k:∀a0 a1 a2 a3,f a0 a1 a2 a3=true→P (.IfExp a0 a1 a2 a3)):P e:=Expr.IfExp.elim (motive_1:=λe=>sC e f=true→P e) e (eS h) (λa0 a1 a2 a3 h=>k a0 a1 a2 a3 h) h
@[elab_as_elim] theorem oG{P:Expr→Prop}{e:Expr}{f:(List Expr)→Nat→Pos→Bool}(h:mE e f=true)(k:∀a0 a1 a2,f a0 a1 a2=true→P (.Tuple a0 a1 a2)):P e:=Expr.Tuple.elim (motive_1:=λe=>mE e f=true→P e) e (eS h) (λa0 a1 a2 h=>k a0 a1 a2 h) h
@[elab_as_elim] theorem vj{P:Expr→Prop}{e:Expr}{f:(List Expr)→Pos→Bool}(h:rU e f=true)(k:∀a0 a1,f a0 a1=true→P (.List a0 a1)):P e:=Expr.List.elim (motive_1:=λe=>rU e f=true→P e) e (eS h) (λa0 a1 h=>k a0 a1 h) h
@[elab_as_elim] theorem CJ{P:Expr→Prop}{e:Expr}{f:(List (Option Expr))→(List Expr)→Pos→Bool}(h:wC e f=true)(k:∀a0 a1 a2,f a0 a1 a2=true→P (.Dict a0 a1 a2)):P e:=Expr.Dict.elim (motive_1:=λe=>wC e f=true→P e) e (eS h) (λa0 a1 a2 h=>k a0 a1 a2 h) h
@[elab_as_elim] theorem j8{P:Expr→Prop}{e:Expr}{f:Expr→(List Comprehension)→Scope→Pos→Bool}(h:iR e f=true)(k:∀a0 a1 a2 a3,f a0 a1 a2 a3=true→P (.ListComp a0 a1 a2 a3)):P e:=Expr.ListComp.elim (motive_1:=λe=>iR e f=true→P e) e (eS h) (λa0 a1 a2 a3 h=>k a0 a1 a2 a3 h) h
@[elab_as_elim] theorem uM{P:Expr→Prop}{e:Expr}{f:Expr→Expr→(List Comprehension)→Scope→Pos→Bool}(h:mF e f=true)(k:∀a0 a1 a2 a3 a4,f a0 a1 a2 a3 a4=true→P (.DictComp a0 a1 a2 a3 a4)):P e:=Expr.DictComp.elim (motive_1:=λe=>mF e f=true→P e) e (eS h) (λa0 a1 a2 a3 a4 h=>k a0 a1 a2 a3 a4 h) h
@[elab_as_elim] theorem fM{P:Stmt→Prop}{e:Stmt}{f:(List Expr)→Expr→Pos→Bool}(h:fT e f=true)(k:∀a0 a1 a2,f a0 a1 a2=true→P (.Assign a0 a1 a2)):P e:=Stmt.Assign.elim (motive_2:=λe=>fT e f=true→P e) e (eS h) (λa0 a1 a2 h=>k a0 a1 a2 h) h
@[elab_as_elim] theorem sR{P:Stmt→Prop}{e:Stmt}{f:Expr→Operator→Expr→Pos→Bool}(h:lM e f=true)(k:∀a0 a1 a2 a3,f a0 a1 a2 a3=true→P (.AugAssign a0 a1 a2 a3)):P e:=Stmt.AugAssign.elim (motive_2:=λe=>lM e f=true→P e) e (eS h) (λa0 a1 a2 a3 h=>k a0 a1 a2 a3 h) h
@[elab_as_elim] theorem sS{P:Stmt→Prop}{e:Stmt}{f:Expr→Expr→(List Stmt)→(List Stmt)→Pos→Bool}(h:sD e f=true)(k:∀a0 a1 a2 a3 a4,f a0 a1 a2 a3 a4=true→P (.For a0 a1 a2 a3 a4)):P e:=Stmt.For.elim (motive_2:=λe=>sD e f=true→P e) e (eS h) (λa0 a1 a2 a3 a4 h=>k a0 a1 a2 a3 a4 h) h
@[elab_as_elim] theorem Aj{P:Stmt→Prop}{e:Stmt}{f:Expr→(List Stmt)→(List Stmt)→Pos→Bool}(h:sF e f=true)(k:∀a0 a1 a2 a3,f a0 a1 a2 a3=true→P (.While a0 a1 a2 a3)):P e:=Stmt.While.elim (motive_2:=λe=>sF e f=true→P e) e (eS h) (λa0 a1 a2 a3 h=>k a0 a1 a2 a3 h) h
@[elab_as_elim] theorem HT{P:Stmt→Prop}{e:Stmt}{f:Expr→(List Stmt)→(List Stmt)→Pos→Bool}(h:Ej e f=true)(k:∀a0 a1 a2 a3,f a0 a1 a2 a3=true→P (.If a0 a1 a2 a3)):P e:=Stmt.If.elim (motive_2:=λe=>Ej e f=true→P e) e (eS h) (λa0 a1 a2 a3 h=>k a0 a1 a2 a3 h) h
@[elab_as_elim] theorem CK{P:Stmt→Prop}{e:Stmt}{f:Expr→Pos→Bool}(h:wD e f=true)(k:∀a0 a1,f a0 a1=true→P (.Expr a0 a1)):P e:=Stmt.Expr.elim (motive_2:=λe=>wD e f=true→P e) e (eS h) (λa0 a1 h=>k a0 a1 h) h
@[elab_as_elim] theorem yo{P:Stmt→Prop}{e:Stmt}{f:(Option Expr)→Pos→Bool}(h:ql e f=true)(k:∀a0 a1,f a0 a1=true→P (.Return a0 a1)):P e:=Stmt.Return.elim (motive_2:=λe=>ql e f=true→P e) e (eS h) (λa0 a1 h=>k a0 a1 h) h
@[elab_as_elim] theorem yp{P:Stmt→Prop}{e:Stmt}{f:(List Expr)→Pos→Bool}(h:qm e f=true)(k:∀a0 a1,f a0 a1=true→P (.Delete a0 a1)):P e:=Stmt.Delete.elim (motive_2:=λe=>qm e f=true→P e) e (eS h) (λa0 a1 h=>k a0 a1 h) h
@[elab_as_elim] theorem Ak{P:Stmt→Prop}{e:Stmt}{f:Pos→Bool}(h:sG e f=true)(k:∀a0,f a0=true→P (.Break a0)):P e:=Stmt.Break.elim (motive_2:=λe=>sG e f=true→P e) e (eS h) (λa0 h=>k a0 h) h
@[elab_as_elim] theorem uN{P:Stmt→Prop}{e:Stmt}{f:Pos→Bool}(h:mG e f=true)(k:∀a0,f a0=true→P (.Continue a0)):P e:=Stmt.Continue.elim (motive_2:=λe=>mG e f=true→P e) e (eS h) (λa0 h=>k a0 h) h
theorem K7{o:Option (Option Nat)}{f:Nat→Bool}{G:Prop}(h:(match o with|some (some k)=>f k|_=>false)=true)(k:∀x,o=some (some x)→f x=true→G):G:=by
 rcases o with _|(_|x)<;>first|exact nB h|exact k _ rfl h
theorem aL{a b:Bool}(h:(a&&b)=true):a=true:=(bZ h).1
theorem aR{a b:Bool}(h:(a&&b)=true):b=true:=(bZ h).2
theorem nT{a:Bool}(h:(!a)=true):a=false:=by cases a<;>first|rfl|cases h
theorem nN{α:Type}{a:α}{C:Prop}(h:none=some a):C:=nomatch h
theorem uF{c:Prop} [Decidable c]{α:Type}{a b:α}(h:(if c then some a else none)=some b):c∧a=b:=by
 by_cases q:c
 ·rw[aC q] at h;exact⟨q,aX h⟩
 ·rw[aB q] at h;exact nN h
theorem Zn{c:Prop} [Decidable c]{α:Type}{o:Option α}{b:α}(h:(if c then none else o)=some b):¬c∧o=some b:=by
 by_cases q:c
 ·rw[aC q] at h;exact nN h
 ·rw[aB q] at h;exact⟨q,h⟩
theorem HU{a b:V}{f:Int→Int→Bool}{r:Bool}{G:Prop}(h:(match a,b with| .int x,.int y=>some (f x y)|_,_=>none)=some r)(k:∀x y,a=.int x→b=.int y→f x y=r→G):G:=by
 cases a<;>first|exact nN h|skip
 cases b<;>first|exact nN h|skip
 exact k _ _ rfl rfl (aX h)
section
variable {W:qU} {sc:Scope} {ls:List (Option Nat)}
@[elab_as_elim] theorem qw{v:_}{P:Expr→Prop}{y0:Expr}(hc:aJ W sc ls (.lit v) y0=true)(k:∀c w1 w2,(JN W.NM v c=true)→P (.Constant c w1 w2)):P y0:=by
 refine uL hc λc w1 w2 hc=>?_
 exact k _ _ _ hc
@[elab_as_elim] theorem qx{i:_}{P:Expr→Prop}{y0:Expr}(hc:aJ W sc ls (.var i) y0=true)(k:∀x w1,(x≠("__debug__":Str))→(((match ls[i]? with|some (some n)=>jz W.NM n x|_=>false))=true)→P (.Name x w1)):P y0:=by
 refine bD hc λx w1 hc=>?_
 exact k _ _ (bne_iff_ne.mp (aL hc)) (aR hc)
@[elab_as_elim] theorem jW{n:_}{v:_}{P:Expr→Prop}{y0:Expr}(hc:aJ W sc ls (.glob n v) y0=true)(k:∀x w1,(x≠("__debug__":Str))→(W.NM n=x)→(o5 sc x=true)→((n,v)∈nh)→P (.Name x w1)):P y0:=by
 refine bD hc λx w1 hc=>?_
 exact k _ _ (bne_iff_ne.mp (z5 hc)) (cz (nO hc)) (gz hc) (dw (aR hc))
@[elab_as_elim] theorem pG{m:_}{n:_}{P:Expr→Prop}{y0:Expr}(hc:aJ W sc ls (.attr m n) y0=true)(k:∀o a w1,(W.NM n=a)→(n∈bW)→(gO o=true)→(aJ W sc ls m o=true)→P (.Attribute o a w1)):P y0:=by
 refine fL hc λo a w1 hc=>?_
 exact k _ _ _ (cz (z5 hc)) (List.contains_iff_mem.mp (nO hc)) (gz hc) (aR hc)
@[elab_as_elim] theorem pH{m:_}{i:_}{P:Expr→Prop}{y0:Expr}(hc:aJ W sc ls (.item m i) y0=true)(k:∀o j w1,(aJ W sc ls m o=true)→(aJ W sc ls i j=true)→P (.Subscript o j w1)):P y0:=by
 refine bU hc λo j w1 hc=>?_
 exact k _ _ _ (aL hc) (aR hc)
@[elab_as_elim] theorem mK{m:_}{lo:_}{hi:_}{P:Expr→Prop}{y0:Expr}(hc:aJ W sc ls (.slice m lo hi) y0=true)(k:∀o a b w1 w2,(aJ W sc ls m o=true)→(aJ W sc ls lo a=true)→(aJ W sc ls hi b=true)→P (.Subscript o (.Slice (some a) (some b) none w1) w2)):P y0:=by
 refine bU hc λo y1 w2 hc=>?_
 refine oF hc λy2 y3 y4 w1 hc=>?_
 refine pq hc λa hc=>?_
 refine pq hc λb hc=>?_
 refine pA hc λhc=>?_
 exact k _ _ _ _ _ (lF hc) (gz hc) (aR hc)
@[elab_as_elim] theorem kM{m:_}{lo:_}{P:Expr→Prop}{y0:Expr}(hc:aJ W sc ls (.lH m lo) y0=true)(k:∀o a w1 w2,(aJ W sc ls m o=true)→(aJ W sc ls lo a=true)→P (.Subscript o (.Slice (some a) none none w1) w2)):P y0:=by
 refine bU hc λo y1 w2 hc=>?_
 refine oF hc λy2 y3 y4 w1 hc=>?_
 refine pq hc λa hc=>?_
 refine pA hc λhc=>?_
 refine pA hc λhc=>?_
 exact k _ _ _ _ (aL hc) (aR hc)
@[elab_as_elim] theorem kN{m:_}{hi:_}{P:Expr→Prop}{y0:Expr}(hc:aJ W sc ls (.j3 m hi) y0=true)(k:∀o b w1 w2,(aJ W sc ls m o=true)→(aJ W sc ls hi b=true)→P (.Subscript o (.Slice none (some b) none w1) w2)):P y0:=by
 refine bU hc λo y1 w2 hc=>?_
 refine oF hc λy2 y3 y4 w1 hc=>?_
 refine pA hc λhc=>?_
 refine pq hc λb hc=>?_
 refine pA hc λhc=>?_
 exact k _ _ _ _ (aL hc) (aR hc)
@[elab_as_elim] theorem jX{f:_}{as:_}{P:Expr→Prop}{y0:Expr}(hc:aJ W sc ls (.call f as) y0=true)(k:∀g es w1,(((match g with| .Attribute .. =>false|_=>true))=true)→(aJ W sc ls f g=true)→(jn W sc ls as es=true)→P (.Call g es [] w1)):P y0:=by
 refine nu hc λg es y1 w1 hc=>?_
 refine cg hc λhc=>?_
 exact k _ _ _ (lF hc) (gz hc) (aR hc)
@[elab_as_elim] theorem kO{b:_}{a1:_}{m:_}{P:Expr→Prop}{y0:Expr}(hc:aJ W sc ls (.bH b a1 m) y0=true)(k:∀x w1 a w2,(x≠("__debug__":Str))→(iz b=x)→(o5 sc x=true)→(aJ W sc ls m a=true)→P (.Call (.Name x w1) [a] [] w2)):P y0:=by
 refine nu hc λy1 y2 y3 w2 hc=>?_
 refine bD hc λx w1 hc=>?_
 refine cK hc λa y4 hc=>?_
 refine cg hc λhc=>?_
 refine cg hc λhc=>?_
 exact k _ _ _ _ (bne_iff_ne.mp (z5 hc)) (cz (nO hc)) (gz hc) (aR hc)
@[elab_as_elim] theorem pI{m:_}{k:_}{P:Expr→Prop}{y0:Expr}(hc:aJ W sc ls (.uI m k) y0=true)(k:∀o a p j q,(a=("get":Str))→(p.endLine=q.line)→(gO o=true)→(aJ W sc ls m o=true)→(aJ W sc ls k j=true)→P (.Call (.Attribute o a p) [j] [] q)):P y0:=by
 refine nu hc λy1 y2 y3 q hc=>?_
 refine fL hc λo a p hc=>?_
 refine cK hc λj y4 hc=>?_
 refine cg hc λhc=>?_
 refine cg hc λhc=>?_
 exact k _ _ _ _ _ (cz (Cx hc)) (cz (sd hc)) (nO hc) (gz hc) (aR hc)
@[elab_as_elim] theorem kQ{m:_}{k:_}{P:Expr→Prop}{y0:Expr}(hc:aJ W sc ls (.append m k) y0=true)(k:∀o a p j q,(a=("append":Str))→(p.endLine=q.line)→(gO o=true)→(aJ W sc ls m o=true)→(aJ W sc ls k j=true)→P (.Call (.Attribute o a p) [j] [] q)):P y0:=by
 refine nu hc λy1 y2 y3 q hc=>?_
 refine fL hc λo a p hc=>?_
 refine cK hc λj y4 hc=>?_
 refine cg hc λhc=>?_
 refine cg hc λhc=>?_
 exact k _ _ _ _ _ (cz (Cx hc)) (cz (sd hc)) (nO hc) (gz hc) (aR hc)
@[elab_as_elim] theorem qy{op:_}{a:_}{b:_}{P:Expr→Prop}{y0:Expr}(hc:aJ W sc ls (.bin op a b) y0=true)(k:∀x o y w1,(CD op o=true)→(aJ W sc ls a x=true)→(aJ W sc ls b y=true)→P (.BinOp x o y w1)):P y0:=by
 refine Ah hc λx o y w1 hc=>?_
 exact k _ _ _ _ (lF hc) (gz hc) (aR hc)
@[elab_as_elim] theorem sV{a:_}{P:Expr→Prop}{y0:Expr}(hc:aJ W sc ls (.neg a) y0=true)(k:∀x w1,(aJ W sc ls a x=true)→P (.UnaryOp .USub x w1)):P y0:=by
 refine pC hc λy1 x w1 hc=>?_
 refine HS hc λhc=>?_
 exact k _ _ hc
@[elab_as_elim] theorem sW{a:_}{P:Expr→Prop}{y0:Expr}(hc:aJ W sc ls (.not a) y0=true)(k:∀x w1,(aJ W sc ls a x=true)→P (.UnaryOp .Not x w1)):P y0:=by
 refine pC hc λy1 x w1 hc=>?_
 refine K5 hc λhc=>?_
 exact k _ _ hc
@[elab_as_elim] theorem sX{es:_}{P:Expr→Prop}{y0:Expr}(hc:aJ W sc ls (.and es) y0=true)(k:∀xs w1,(jn W sc ls es xs=true)→P (.BoolOp .And xs w1)):P y0:=by
 refine qY hc λy1 xs w1 hc=>?_
 refine K6 hc λhc=>?_
 exact k _ _ hc
@[elab_as_elim] theorem yq{es:_}{P:Expr→Prop}{y0:Expr}(hc:aJ W sc ls (.or es) y0=true)(k:∀xs w1,(jn W sc ls es xs=true)→P (.BoolOp .Or xs w1)):P y0:=by
 refine qY hc λy1 xs w1 hc=>?_
 refine N2 hc λhc=>?_
 exact k _ _ hc
@[elab_as_elim] theorem sY{a:_}{op:_}{b:_}{P:Expr→Prop}{y0:Expr}(hc:aJ W sc ls (.cmp a op b) y0=true)(k:∀x o y w1,(z9 op o=true)→(aJ W sc ls a x=true)→(aJ W sc ls b y=true)→P (.Compare x [o] [y] w1)):P y0:=by
 refine pF hc λx y1 y2 w1 hc=>?_
 refine cK hc λo y3 hc=>?_
 refine cg hc λhc=>?_
 refine cK hc λy y4 hc=>?_
 refine cg hc λhc=>?_
 exact k _ _ _ _ (lF hc) (gz hc) (aR hc)
@[elab_as_elim] theorem pJ{a:_}{o1:_}{b:_}{o2:_}{c:_}{P:Expr→Prop}{y0:Expr}(hc:aJ W sc ls (.sj a o1 b o2 c) y0=true)(k:∀x p1 p2 y z w1,(((match c with| .never=>false|_=>true))=true)→(z9 o1 p1=true)→(z9 o2 p2=true)→(aJ W sc ls a x=true)→(aJ W sc ls b y=true)→(aJ W sc ls c z=true)→P (.Compare x [p1,p2] [y,z] w1)):P y0:=by
 refine pF hc λx y1 y2 w1 hc=>?_
 refine cK hc λp1 y3 hc=>?_
 refine cK hc λp2 y4 hc=>?_
 refine cg hc λhc=>?_
 refine cK hc λy y5 hc=>?_
 refine cK hc λz y6 hc=>?_
 refine cg hc λhc=>?_
 exact k _ _ _ _ _ _ (KL hc) (z7 hc) (sd hc) (nO hc) (gz hc) (aR hc)
@[elab_as_elim] theorem sZ{t:_}{a:_}{b:_}{P:Expr→Prop}{y0:Expr}(hc:aJ W sc ls (.ite t a b) y0=true)(k:∀x y z w1,(aJ W sc ls t x=true)→(aJ W sc ls a y=true)→(aJ W sc ls b z=true)→P (.IfExp x y z w1)):P y0:=by
 refine Ai hc λx y z w1 hc=>?_
 exact k _ _ _ _ (lF hc) (gz hc) (aR hc)
@[elab_as_elim] theorem s7{es:_}{P:Expr→Prop}{y0:Expr}(hc:aJ W sc ls (.tup es) y0=true)(k:∀xs w1 w2,(es.length≤100)→(jn W sc ls es xs=true)→P (.Tuple xs w1 w2)):P y0:=by
 refine oG hc λxs w1 w2 hc=>?_
 exact k _ _ _ (dw (aL hc)) (aR hc)
@[elab_as_elim] theorem s8{es:_}{P:Expr→Prop}{y0:Expr}(hc:aJ W sc ls (.lst es) y0=true)(k:∀xs w1,(es.length≤100)→(jn W sc ls es xs=true)→P (.List xs w1)):P y0:=by
 refine vj hc λxs w1 hc=>?_
 exact k _ _ (dw (aL hc)) (aR hc)
@[elab_as_elim] theorem pK{es:_}{P:Expr→Prop}{y0:Expr}(hc:aJ W sc ls (.cell es) y0=true)(k:∀xs w1,(es.length≤100)→(jn W sc ls es xs=true)→P (.List xs w1)):P y0:=by
 refine vj hc λxs w1 hc=>?_
 exact k _ _ (dw (aL hc)) (aR hc)
@[elab_as_elim] theorem pL{es:_}{P:Expr→Prop}{y0:Expr}(hc:aJ W sc ls (.dict es) y0=true)(k:∀ks vs w1,(ks.length≤15)→(yg W sc ls es ks vs=true)→P (.Dict ks vs w1)):P y0:=by
 refine CJ hc λks vs w1 hc=>?_
 exact k _ _ _ (dw (aL hc)) (aR hc)
@[elab_as_elim] theorem mL{m:_}{x:_}{it:_}{P:Expr→Prop}{y0:Expr}(hc:aJ W sc ls (.nX m x it) y0=true)(k:∀y t w1 j cs w2,(((match W.xs[x]? with|some n=>jz W.NM n t|_=>false))=true)→(gZ sc cs=true)→(cs.names.lookup t=some .local)→(aJ W sc ls it j=true)→(aJ W cs (qk W.NM cs W.xs x 0 ls) m y=true)→P (.ListComp y [⟨.Name t w1,j,[],0⟩] cs w2)):P y0:=by
 refine j8 hc λy y1 cs w2 hc=>?_
 refine cK hc λy2 y3 hc=>?_
 refine rX hc λy4 j y5 y6 hc=>?_
 refine bD hc λt w1 hc=>?_
 refine cg hc λhc=>?_
 refine HR hc λhc=>?_
 refine cg hc λhc=>?_
 exact k _ _ _ _ _ _ (Cx hc) (sd hc) (cz (nO hc)) (gz hc) (aR hc)
@[elab_as_elim] theorem mO{it:_}{P:Expr→Prop}{y0:Expr}(hc:aJ W sc ls (.o4 it) y0=true)(k:∀w1 t w2 j w3 cs w4,(gZ sc cs=true)→(cs.names.lookup t=some .local)→(aJ W sc ls it j=true)→P (.ListComp w1 [⟨.Name t w2,j,w3,0⟩] cs w4)):P y0:=by
 refine j8 hc λw1 y1 cs w4 hc=>?_
 refine cK hc λy2 y3 hc=>?_
 refine rX hc λy4 j w3 y5 hc=>?_
 refine bD hc λt w2 hc=>?_
 refine HR hc λhc=>?_
 refine cg hc λhc=>?_
 exact k _ _ _ _ _ _ _ (lF hc) (cz (gz hc)) (aR hc)
end
structure gP(X:Ctx)(env:PySem.Env)(ls:List (Option Nat))(ρ:Env)(μ:Mu)(h:Heap):Prop where
 own:¬bL μ env.locals
 low:X.h0.get? env.locals=none
 kind:env.scope.kind=.function
 glob:env.globals=mainGlobals
 blt:env.builtins=builtinsNs
 cells:∀y,env.kindOf y=some .cell→∃c,env.cells.lookup y=some c
 nodup:∀i j n:Nat,ls[i]? =some (some n)→ls[j]? =some (some n)→i=j
 lt:∀i n:Nat,ls[i]? =some (some n)→n<aO.length
 ns:∃m,h.Ns env.locals m∧∀(i n:Nat)(v:V),ls[i]? =some (some n)→ρ[i]? =some (some v)→
  (env.kindOf (X.NM n)=some .local∧∃x,m (X.NM n)=some x∧VR X μ h v x)∨
  ((env.kindOf (X.NM n)=some .cell∨(env.kindOf (X.NM n)=some .free∧X.NM n≠"__classdict__"))∧∃c x,env.cells.lookup (X.NM n)=some c∧¬bL μ c∧h.IsCell c (some x)∧VR X μ h v x)
theorem gP.mono{X:Ctx}{env:PySem.Env}{ls:List (Option Nat)}{ρ:Env}{μ bA:Mu}{h h':Heap}(F:gP X env ls ρ μ h)(e:cU μ bA h h'):gP X env ls ρ bA h':=by
 refine dY λG hG=>?_
 obtain⟨m,⟨o,es,ep,ho,hd,hk,hm⟩,hv⟩:=F.ns
 refine hG ?_
 refine⟨e.eV F.own ho,F.low,F.kind,F.glob,F.blt,F.cells,F.nodup,F.lt,m,⟨o,es,ep,e.keep _ _ F.own ho,hd,hk,hm⟩,λi n v a b=>?_⟩
 rcases hv i n v a b with⟨q,x,y,z⟩|⟨q,c,x,hc,no,⟨oc,g,gd⟩,y⟩
 ·exact .inl ⟨q,x,y,z.mono e⟩
 ·exact .inr ⟨q,c,x,hc,e.eV no g,⟨oc,e.keep _ _ no g,gd⟩,y.mono e⟩
structure J6(X:Ctx)(c:Nat):Prop where
 get:findIn X.K (.ref (X.CA c)) "__getattribute__"=some (some (.builtin "object.__getattribute__"))
 Rx:findIn X.K (.ref (X.CA c)) "__setattr__"=some (some (.builtin "object.__setattr__"))
 hd:hasDictIn X.K (X.CA c)=true
 plain:plainOver X.K (X.CA c)=true
 makes:makesIn X.K (X.CA c)=true
 init:findIn X.K (.ref (X.CA c)) "__init__"=some (some (.ref (X.FA c)))
 K8:typeIn X.K (.ref (X.FA c))=some (.type "function")
 keep:keepIn X.K (.ref (X.CA c))=true
 attrs:∀a∈bW,findIn X.K (.ref (X.CA c)) (X.NM a)=some none
structure bE(X:Ctx)(mg mb:Str→Option Value):Prop where
 KX:X.K.In X.h0
 g:X.h0.Ns mainGlobals mg
 b:X.h0.Ns builtinsNs mb
 nolimit:X.h0.NoLimit
 glob:∀n v,(n,v)∈nh→∃x,mg (X.NM n)=some x∧VR X [] X.h0 v x
 bi:∀c,mg (iz c)=none∧mb (iz c)=some (BJ c)
 flat:∀n v,(n,v)∈nh→∀l,v≠ .loc l
 lay:∀n,n<aO.length→(PyData.str (X.NM n)).canLay0=true
 cls:∀c∈lI,J6 X c
 inj:∀a b,a<aO.length→b<aO.length→X.NM a=X.NM b→a=b
noncomputable def lE(X:Ctx)(μ:Mu)(s:Shared)(v:V)(τ:aa)(Q:Value→Shared→Prop):Prop:=
 ∀bA x s',cU μ bA s.heap s'.heap→St X bA τ s'→VR X bA s'.heap v x→Q x s'
noncomputable def wO(X:Ctx)(μ:Mu)(s:Shared)(v:List V)(τ:aa)(Q:List Value→Shared→Prop):Prop:=
 ∀bA x s',cU μ bA s.heap s'.heap→St X bA τ s'→bN X bA s'.heap v x→Q x s'
section
variable {X:Ctx} {μ:Mu} {s:Shared} {v v':V} {τ mq:aa} {Q:Value→Shared→Prop}
theorem lE.of(hQ:lE X μ s v τ Q)(e:some (v',mq)=some (v,τ)):lE X μ s v' mq Q:=ay (P:=λt:V × aa=>lE X μ s t.1 t.2 Q) (aX e) hQ
theorem lE.oq(hQ:lE X μ s v τ Q)(e:(v',mq)=(v,τ)):lE X μ s v' mq Q:=ay (P:=λt:V × aa=>lE X μ s t.1 t.2 Q) e hQ
theorem lE.ov(hQ:lE X μ s v τ Q)(e:v'=v):lE X μ s v' τ Q:=e▸hQ
theorem lE.os(hQ:lE X μ s v τ Q)(e:some v'=some v):lE X μ s v' τ Q:=aX e▸hQ
theorem lE.ot(hQ:lE X μ s v τ Q)(e:some mq=some τ):lE X μ s v mq Q:=aX e▸hQ
theorem wO.of{v v':List V}{Q:List Value→Shared→Prop}(hQ:wO X μ s v τ Q)(e:some (v',mq)=some (v,τ)):wO X μ s v' mq Q:=ay (P:=λt:List V × aa=>wO X μ s t.1 t.2 Q) (aX e) hQ
theorem wO.oq{v v':List V}{Q:List Value→Shared→Prop}(hQ:wO X μ s v τ Q)(e:(v',mq)=(v,τ)):wO X μ s v' mq Q:=ay (P:=λt:List V × aa=>wO X μ s t.1 t.2 Q) e hQ
end
noncomputable def Room(A:Around)(n:Nat):Prop:=A.handled=none∧A.depth+4*n+120≤recursionLimit∧A.units+20*n+40≤cLine
noncomputable def pM(A:Around)(n:Nat):Prop:=A.handled=none∧A.depth+4*n+118≤recursionLimit∧A.units+20*n+30≤cLine
noncomputable def SC(X:Ctx)(n:Nat):Prop:=∀f vs σ v τ,af P0 n f vs σ=some (v,τ)→∀(A:Around) μ s vals,pM A n→St X μ σ s→bN X μ s.heap vs vals→
 ∀R:Result→Shared→Prop,lE X μ s v τ (λx s'=>R (.ok (.ret x)) s')→codeAny (model X.prog X.w) A (.call (.ref (X.FA f)) ⟨vals,[]⟩) R s
noncomputable def SE(X:Ctx)(n:Nat)(xs:List Nat)(m:ME):Prop:=∀(A:Around)(env:PySem.Env) ls ρ σ v τ μ s e,Room A n→aJ ⟨X.NM,xs⟩ env.scope ls m e=true→gP X env ls ρ μ s.heap→St X μ σ s→
 aH (af P0 n) ρ m σ=some (v,τ)→∀Q E,lE X μ s v τ Q→wpAny (model X.prog X.w) A (eval e env) Q E s
noncomputable def SL(X:Ctx)(n:Nat)(xs:List Nat)(ms:List ME):Prop:=∀(A:Around)(env:PySem.Env) ls ρ σ vs τ μ s es pos,Room A n→jn ⟨X.NM,xs⟩ env.scope ls ms es=true→gP X env ls ρ μ s.heap→St X μ σ s→
 jU (af P0 n) ρ ms σ=some (vs,τ)→∀Q E,wO X μ s vs τ Q→wpAny (model X.prog X.w) A (spliced (backTo pos (starEach es env))) Q E s
section
variable {X:Ctx} {n:Nat} {xs:List Nat} {mg mb:Str→Option Value}
theorem St.tok{μ:Mu}{σ:aa}{s:Shared}(S:St X μ σ s)(t:Nat):St X μ σ {s with toks:=t}:=⟨S.len,S.above,S.main,S.sep,S.obj,S.base,S.gens,S.os⟩
theorem cU.tok{μ bA:Mu}{h h':Heap}(e:cU μ bA h h'):cU μ bA h h':=e
theorem St.push{μ:Mu}{σ:aa}{s:Shared}(S:St X μ σ s)(o:Obj)(t:Nat):St X μ σ {s with heap:=s.heap.push o,toks:=t}:=
 S.more (λb x g=>gX o g)
theorem cU.push{μ:Mu}{h:Heap}(o:Obj):cU μ μ h (h.push o):=cU.more (λ_ _ g=>gX o g)
theorem St.fresh{μ:Mu}{σ:aa}{s:Shared}(S:St X μ σ s):¬bL μ s.heap.objs.size:=by
 rintro⟨p,hp,e|e⟩
 ·obtain⟨⟨o,g⟩,_⟩:=S.alive hp
  exact Nat.lt_irrefl _ (by have:=dh g;rw[←e] at this;exact this)
 ·obtain⟨_,⟨o,g⟩⟩:=S.alive hp
  exact Nat.lt_irrefl _ (by have:=dh g;rw[←e] at this;exact this)
theorem bind_some{α β:Type}{x:Option α}{f:α→Option β}{b:β}(h:x.bind f=some b):∃a,x=some a∧f a=some b:=Option.bind_eq_some_iff.mp h
theorem map_some{α β:Type}{x:Option α}{f:α→β}{b:β}(h:x.map f=some b):∃a,x=some a∧f a=b:=Option.map_eq_some_iff.mp h
theorem bM{α δ:Type}{x:Option (α × aa)}{f:α→aa→Option δ}{w:δ}{τ:aa}{G:Prop}(h:(x.bind λ(v,σ)=>(f v σ).map λu=>(u,σ))=some (w,τ))(k:∀v,x=some (v,τ)→f v τ=some w→G):G:=by
 rcases x with _|⟨v,σ⟩
 ·exact fY h
 ·exact aA (map_some h) λu e1 e2=>by cases e2;exact k v rfl e1
theorem bG{α δ ε:Type}{x:Option (α × aa)}{f:α→aa→Option δ}{g:δ→ε}{w:ε}{τ:aa}{G:Prop}(h:(x.bind λ(v,σ)=>(f v σ).map λu=>(g u,σ))=some (w,τ))(k:∀v u,x=some (v,τ)→f v τ=some u→g u=w→G):G:=by
 rcases x with _|⟨v,σ⟩
 ·exact fY h
 ·exact aA (map_some h) λu e1 e2=>k v u (aj (λz=>some (v,z)) (Prod.mk.inj e2).2) ((Prod.mk.inj e2).2▸e1) (Prod.mk.inj e2).1
theorem mM{α ε:Type}{x:Option (α × aa)}{g:α→ε}{w:ε}{τ:aa}{G:Prop}(h:(x.map λ(v,σ)=>(g v,σ))=some (w,τ))(k:∀v,x=some (v,τ)→g v=w→G):G:=by
 rcases x with _|⟨v,σ⟩
 ·exact fY h
 ·have e2:=aX h
  exact k v (aj (λz=>some (v,z)) (Prod.mk.inj e2).2) (Prod.mk.inj e2).1
theorem Ry{call:Nat→List V→aa→Option (V × aa)}{ρ:Env}{i:Nat}{σ:aa}{v:V}(h:ρ[i]? =some (some v)):aH call ρ (.var i) σ=some (v,σ):=by
 refine(?_:(match ρ[i]? with|some (some v)=>some (v,σ)|_=>none)=_)
 exact ay h (rfl)
theorem EM(v:V):SE X n xs (.lit v):=by
 intro A env ls ρ σ u τ μ s e hR hc F S he Q E hQ
 refine qw hc λc k p hc=>?_
 cases v<;>first|exact nB hc|(cases c<;>first|exact nB hc|skip)
 ·exact wpAny_Constant_none ((hQ.of he) _ _ _ .refl S (by simp only[VR]))
 ·exact wpAny_Constant_bool ((hQ.of he) _ _ _ .refl S (by simp only[VR];rw[cz hc]))
 ·exact wpAny_Constant_int ((hQ.of he) _ _ _ .refl (S.tok _) (by simp only[VR];rw[cz hc];exact⟨_,rfl⟩))
 ·have hc:=bZ hc
  exact wpAny_Constant_str ((hQ.of he) _ _ _ .refl (S.tok _) (by simp only[VR];exact⟨dw hc.2,_,aj (λz=>Value.str z _) (cz hc.1).symm⟩))
theorem wQ(i:Nat):SE X n xs (.var i):=by
 intro A env ls ρ σ u τ μ s e hR hc F S he Q E hQ
 refine KZ he λv hv he=>?_
 refine dY λG hG=>?_
 cases he
 refine hG ?_
 refine qx hc λx p hd hc=>?_
 refine K7 hc λk hk hc=>?_
 have hx:X.NM k=x:=cz hc
 clear hc
 subst hx
 refine aA F.ns λm hn hm=>?_
 have jg:(X.NM k==("__debug__":Str))=false:=iQ hd
 rcases hm i k u hk hv with⟨q,y,z,w⟩|⟨q,c,y,hcl,no,ic,w⟩
 ·exact wpAny_Name (wpAny_loadName_local F.kind q hn z (hQ _ _ _ .refl S w)) jg
 ·rcases q with q|⟨q,hcd⟩
  ·exact wpAny_Name (wpAny_loadName_cell F.kind q hcl ic (hQ _ _ _ .refl S w)) jg
  ·exact wpAny_Name (wpAny_loadName_free F.kind q hcl ic (hQ _ _ _ .refl S w) (iQ hcd)) jg
theorem pN(B:bE X mg mb)(k:Nat)(v:V):SE X n xs (.glob k v):=by
 intro A env ls ρ σ u τ μ s e hR hc F S he Q E hQ
 refine dY λG hG=>?_
 cases he
 refine hG ?_
 refine jW hc λx p hd hc hg hm=>?_
 have hx:X.NM k=x:=hc
 clear hc
 subst hx
 refine aA (B.glob k v hm) λx hx hv=>?_
 have jg:(X.NM k==("__debug__":Str))=false:=iQ hd
 have hg':env.kindOf (X.NM k)=some .globalImplicit:=cz hg
 refine Name_function_global F.kind hg' (loadGlobal_global (mg:=mg) ?_ hx ?_) jg
 ·refine ay F.glob ?_
  exact B.g.keeps S.base
 ·refine hQ _ _ _ .refl S ?_
  clear hQ hc
  cases v<;>first|exact nB (iP sH _ hm)|exact hv
theorem bE.kx(B:bE X mg mb){μ:Mu}{σ:aa}{s:Shared}(S:St X μ σ s):X.K.In s.heap:=B.KX.keeps S.base
theorem two{A:Around}{env:PySem.Env}{ls:List (Option Nat)}{ρ:Env}{σ σ₁ τ:aa}{v u:V}{μ:Mu}{s:Shared}{e f:Expr}{m k:ME}(h1:SE X n xs m)(h2:SE X n xs k)(hR:Room A n)
  (c1:aJ ⟨X.NM,xs⟩ env.scope ls m e=true)(c2:aJ ⟨X.NM,xs⟩ env.scope ls k f=true)(F:gP X env ls ρ μ s.heap)(S:St X μ σ s)
  (e1:aH (af P0 n) ρ m σ=some (v,σ₁))(e2:aH (af P0 n) ρ k σ₁=some (u,τ)){Q:Value→Value→Shared→Prop}{E:Value→Shared→Prop}
  (hQ:∀bA x y s',cU μ bA s.heap s'.heap→St X bA τ s'→VR X bA s'.heap v x→VR X bA s'.heap u y→Q x y s'):
  wpAny (model X.prog X.w) A (eval e env) (λx s₁=>wpAny (model X.prog X.w) A (eval f env) (λy s₂=>Q x y s₂) E s₁) E s:=
 h1 A env ls ρ σ v σ₁ μ s e hR c1 F S e1 _ _ λao x s₁ E₁ S₁ aU=>
  h2 A env ls ρ σ₁ u τ ao s₁ f hR c2 (F.mono E₁) S₁ e2 _ _ λbB y s₂ E₂ S₂ cZ=>hQ bB x y s₂ (E₁.trans E₂) S₂ (aU.mono E₂) cZ
theorem mJ.find{μ:Mu}{h:Heap}(hinj:∀a b,a∈bW→b∈bW→X.NM a=X.NM b→a=b):∀{fs:List (Nat × V)}{ds:List DictEntry}{k:Nat}{v:V},mJ X μ h fs ds→fs.all (λf=>bW.contains f.1)=true→k∈bW→
  o7 fs k=some v→∃d,ds.find? (·.key.isStr (X.NM k))=some d∧VR X μ h v d.val
 | [],_,_,_,_,_,_,e=>by simp[o7] at e
 |(a,u)::r,ds,k,v,g,ha,hk,e=>by
  simp only[mJ] at g
  obtain⟨d,q,rfl,⟨t,hd⟩,hv,hr⟩:=g
  simp only[List.all_cons,Bool.and_eq_true,List.contains_iff_mem] at ha
  simp only[o7] at e
  split at e
  ·rename_i q;subst q;cases e
   exact⟨d,by rw[List.find?_cons,hd];simp[Value.isStr],hv⟩
  ·rename_i q
   refine aA (mJ.find hinj hr ha.2 hk e) λd' h1 h2=>?_
   refine⟨d',?_,h2⟩
   refine ay List.find?_cons (?_)
   refine ay hd ?_
   have:Value.isStr (.str (X.NM a) t) (X.NM k)=false:=by
    exact iQ λz=>q (hinj _ _ ha.1 hk z)
   rw[this];exact h1
theorem VR.handed{μ:Mu}{h:Heap}{v:V}{x:Value}(g:VR X μ h v x):handedIn x=true:=by
 cases v<;>simp only[VR] at g
 ·subst g;rfl
 ·subst g;rfl
 ·obtain⟨t,rfl⟩:=g;rfl
 ·obtain⟨_,t,rfl⟩:=g;rfl
 ·obtain⟨a,t,rfl,_⟩:=g;rfl
 ·obtain⟨a,t,rfl,_⟩:=g;rfl
 ·obtain⟨a,t,k,rfl,_⟩:=g;rfl
 ·obtain⟨a,t,k,rfl,_⟩:=g;rfl
 ·obtain⟨a,t,u,k,rfl,_⟩:=g;rfl
 ·subst g;rfl
 ·obtain⟨rfl,_⟩:=g;rfl
 ·obtain⟨p,_,rfl⟩:=g;rfl
theorem BK:∀a∈bW,a<aO.length:=by decide
theorem bE.N3(B:bE X mg mb):∀a b,a∈bW→b∈bW→X.NM a=X.NM b→a=b:=λa b ha hb=>B.inj a b (BK a ha) (BK b hb)
theorem OR.sO{μ:Mu}{h:Heap}{p:Addr × Addr}{c:Nat}{fs:List (Nat × V)}(g:OR X μ h p (.inst c fs)):∃ds k,InstAt h p.1 (instObj (X.CA c) p.2) (X.CA c) (some (gF ds k))∧h.get? p.2=some (gF ds k)∧mJ X μ h fs ds.toList∧c∈lI∧fs.all (λf=>bW.contains f.1)=true:=by
 refine dY λG hG=>?_
 obtain⟨_,ds,k,a,b,c,d,e⟩:=g
 refine hG ?_
 exact⟨ds,k,⟨a,rfl,rfl,b⟩,b,c,d,e⟩
set_option tactic.hygienic true in
theorem oH {o : Expr} {a : Str} {env : PySem.Env} {t : Sem Value} (h : gO o = true) : attributeBase o a env t = t := by
  cases o <;> first | rfl | skip
  rename_i f as kws p
  cases as
  · exact nB h
  · clear h
    cases f <;> rfl
theorem BL(B:bE X mg mb){A:Around}{μ:Mu}{σ:aa}{s:Shared}(S:St X μ σ s){l:Nat}{c:Nat}{fs:List (Nat × V)}{x:Value}{k:Nat}{v:V}(hx:VR X μ s.heap (.loc l) x)(ho:σ[l]? =some (.inst c fs))(hk:k∈bW)
  (hf:o7 fs k=some v){expr:Bool}{Q:Value→Shared→Prop}{E:Value→Shared→Prop}(h:∀y,VR X μ s.heap v y→Q y {s with toks:=s.toks+1}):wpAny (model X.prog X.w) A (getAttr x (X.NM k) expr) Q E s:=by
 simp only[VR] at hx
 refine dY λG hG=>?_
 obtain⟨p,hp,rfl⟩:=hx
 refine HK ((S.obj l _ p ho hp).sO) λds m I hd hfr hc ha=>?_
 have C:=B.cls c hc
 refine aA (mJ.find B.N3 hfr ha hk hf) λd h1 h2=>?_
 refine hG ?_
 refine get_value (B.kx S) I C.get (findObj_own C.hd (C.attrs k hk) rfl ?_) h2.handed (h _ h2)
 refine(?_:(match ds.toList.find? (·.key.isStr (X.NM k)) with|some e=>some (some e.val)|none=>_)=_)
 exact ay h1 (rfl)
theorem BN(B:bE X mg mb){m:ME}(k:Nat)(hm:SE X n xs m):SE X n xs (.attr m k):=by
 intro A env ls ρ σ v τ μ s e hR hc F S he Q E hQ
 refine bM (f:=λv σ=>CI v k σ) he λv1 h1 he=>?_
 refine pG hc λo a pos W3 hk hp hc=>?_
 subst W3
 refine qW he λl bP he=>?_
 subst bP
 refine z8 he λc fs ho hf=>?_
 refine(?_:wpAny _ _ (do let o' ←attributeBase o (X.NM k) env (eval o env);standAt pos.atName;let r ←holding [o'] (getAttr o' (X.NM k) true);letTemporaryGo o o' r;pure r) Q E s)
 refine ay (oH hp) ?_
 refine au (hm A env ls ρ σ _ _ μ s o hR hc F S h1 _ _ λao x s₁ E₁ S₁ aU=>?_)
 refine au (wpAny_standAt (au (cF ?_)))
 refine BL B S₁ aU ho hk hf λy hy=>au (wpAny_letTemporaryGo (aT ?_))
 exact hQ ao y _ E₁ (S₁.tok _) hy
set_option tactic.hygienic true in
theorem gw (slice : Expr) (o i : Value) : ∃ ops, subscripted slice false o i = operate ops (getItem o i) := by
  cases slice <;> first | exact ⟨_, rfl⟩ | skip
  rename_i l u st p
  cases st <;> exact ⟨_, rfl⟩
mutual
noncomputable def toPy(X:Ctx):V→PyData
 | .int i=> .int i
 | .str n=> .str (X.NM n)
 | .tup l=> .tuple (nY X l)
 | .lst l=> .list (nY X l)
 |_=> .none
noncomputable def nY(X:Ctx):List V→List PyData
 | []=>[]
 |v::r=>toPy X v::nY X r
end
theorem iU{P:Nat→V→Prop}(h0:∀k,P k .none)(h1:∀k i,P k (.int i))(h2:∀k n,P k (.str n))(h3:∀k l,(∀v,bl k v=true→P k v)→l.all (bl k)=true→P (k+1) (.tup l))(h4:∀k l,(∀v,bl k v=true→P k v)→l.all (bl k)=true→P (k+1) (.lst l)):
  ∀k v,bl k v=true→P k v:=by
 intro k
 induction k with
 |zero=>exact λv=>sL (h0 0) (h1 0) (h2 0) (λ_ e=>nB e) λ_ e=>nB e
 |succ k ih=>exact λv=>sL (h0 _) (h1 _) (h2 _) (λl _=>h3 k l ih) λl _=>h4 k l ih
noncomputable def Rd(X:Ctx)(h:Heap)(k:Nat)(v:V)(x:Value):Prop:=(∃as,Reads h x (toPy X v) as)∧(toPy X v).canLay0=true∧(toPy X v).depth≤k
noncomputable def W5(X:Ctx)(h:Heap)(k:Nat)(l:List V)(ys:List Value):Prop:=(∃as,ReadsAll h ys (nY X l) as)∧PyData.canLayAll0 (nY X l)=true∧PyData.depthAll (nY X l)≤k
theorem s9{μ:Mu}{h:Heap}{k:Nat}(hk:∀v,bl k v=true→∀x,VR X μ h v x→Rd X h k v x)(l:List V):∀ys,l.all (bl k)=true→bN X μ h l ys→W5 X h k l ys:=by
 induction l with
 |nil=>exact λys _ g=>bN.eN g ⟨⟨_,.nil⟩,rfl,Nat.zero_le _⟩
 |cons v r ih=>
  exact λys ha g=>bN.eC g λy q g1 g2=>gj (hk v (aL ha) y g1) λe1 c1 d1=>gj (ih q (aR ha) g2) λe2 c2 d2=>bK e1 λas r1=>bK e2 λbs r2=>
   ⟨⟨_,.cons r1 r2⟩,Bool.and_eq_true_iff.mpr ⟨c1,c2⟩,Nat.max_le.mpr ⟨d1,d2⟩⟩
theorem kR(B:bE X mg mb){μ:Mu}{h:Heap}(k:Nat)(v:V)(hf:bl k v=true):∀x,VR X μ h v x→Rd X h k v x:=by
 refine iU (P:=λk v=>∀x,VR X μ h v x→Rd X h k v x) (λk x g=>?_) (λk i x g=>?_) (λk n x g=>?_) (λk l ih hl x g=>?_) (λk l ih hl x g=>?_) k v hf
 ·exact VR.yl g ⟨⟨_,.none⟩,rfl,Nat.zero_le _⟩
 ·exact VR.gf g λt=>⟨⟨_,.int _ _⟩,rfl,Nat.zero_le _⟩
 ·exact VR.EH g λq t=>⟨⟨_,.str _ _⟩,B.lay _ q,Nat.zero_le _⟩
 ·exact VR.uK g λa az m _ ho hv=>gj (s9 ih l _ hl hv) λe c d=>bK e λas r=>⟨⟨_,.tuple ho rfl rfl r⟩,c,Nat.succ_le_succ d⟩
 ·exact VR.qu g λa az m _ ho hv=>gj (s9 ih l _ hl hv) λe c d=>bK e λas r=>⟨⟨_,.list ho rfl rfl r⟩,c,Nat.succ_le_succ d⟩
noncomputable def Rz(X:Ctx)(μ:Mu)(h:Heap)(k:Nat)(v:V):Prop:=∀x u y,VR X μ h v x→bl k u=true→VR X μ h u y→PyData.eqv (toPy X v) (toPy X u)=decide (v=u)
theorem yr{μ:Mu}{h:Heap}{k:Nat}(hk:∀v,bl k v=true→Rz X μ h k v)(l:List V):∀m xs ys,l.all (bl k)=true→m.all (bl k)=true→bN X μ h l xs→bN X μ h m ys→PyData.eqvAll (nY X l) (nY X m)=decide (l=m):=by
 induction l with
 |nil=>intro m xs ys _ _ _ _;cases m<;>rfl
 |cons v r ih=>
  intro m xs ys h1 h2 g1 g2
  cases m with
  |nil=>rfl
  |cons u q=>
   refine fj g1 λx xs' _ a1 a2=>fj g2 λy ys' _ b1 b2=>?_
   refine(congr (aj and (hk v (aL h1) x u y a1 (aL h2) b1)) (ih q _ _ (aR h1) (aR h2) a2 b2)).trans ?_
   by_cases a:v=u
   ·by_cases b:r=q
    ·rw[fk a,fk b,a,b];exact(fk rfl).symm
    ·rw[gM b,Bool.and_false];exact(gM λe=>b (List.cons.inj e).2).symm
   ·rw[gM a,Bool.false_and];exact(gM λe=>a (List.cons.inj e).1).symm
theorem rY{α β:Type} [DecidableEq α] [DecidableEq β]{f:α→β}(hf:∀a b,f a=f b→a=b)(a b:α):decide (a=b)=decide (f a=f b):=decide_eq_decide.mpr ⟨aj f,hf a b⟩
theorem tg(B:bE X mg mb){μ:Mu}{h:Heap}(k:Nat)(v:V)(hf:bl k v=true):Rz X μ h k v:=by
 refine iU (P:=Rz X μ h) (λk x u y _ hu _=>?_) (λk i x u y _ hu _=>?_) (λk n x u y g hu=>?_) (λk l ih hl x u y g hu=>?_) (λk l ih hl x u y g hu=>?_) k v hf
 ·exact iU (P:=λ_ u=>PyData.eqv .none (toPy X u)=decide (V.none=u)) (λ_=>rfl) (λ_ _=>rfl) (λ_ _=>rfl) (λ_ _ _ _=>rfl) (λ_ _ _ _=>rfl) k u hu
 ·exact iU (P:=λ_ u=>PyData.eqv (.int i) (toPy X u)=decide (V.int i=u)) (λ_=>rfl) (λ_ j=>rY (λ_ _=>V.int.inj) i j) (λ_ _=>rfl) (λ_ _ _ _=>rfl) (λ_ _ _ _=>rfl) k u hu
 ·refine iU (P:=λ_ u=>VR X μ h u y→PyData.eqv (.str (X.NM n)) (toPy X u)=decide (V.str n=u)) (λ_ _=>rfl) (λ_ _ _=>rfl) (λ_ m g2=>?_) (λ_ _ _ _ _=>rfl) (λ_ _ _ _ _=>rfl) k u hu
  exact(decide_eq_decide.mpr ⟨λe=>aj V.str (B.inj n m g.1 g2.1 e),λe=>aj X.NM (V.str.inj e)⟩)
 ·refine iU (P:=λk' u=>k'=k+1→VR X μ h u y→PyData.eqv (.tuple (nY X l)) (toPy X u)=decide (V.tup l=u)) (λ_ _ _=>rfl) (λ_ _ _ _=>rfl) (λ_ _ _ _=>rfl) (λk' m _ hm e g2=>?_) (λ_ _ _ _ _ _=>rfl) _ u hu rfl
  cases e
  exact jN g λ_ _ _ _ _ _ h1=>jN g2 λ_ _ _ _ _ _ h2=>(yr ih l m _ _ hl hm h1 h2).trans (rY (λ_ _=>V.tup.inj) l m)
 ·refine iU (P:=λk' u=>k'=k+1→VR X μ h u y→PyData.eqv (.list (nY X l)) (toPy X u)=decide (V.lst l=u)) (λ_ _ _=>rfl) (λ_ _ _ _=>rfl) (λ_ _ _ _=>rfl) (λ_ _ _ _ _ _=>rfl) (λk' m _ hm e g2=>?_) _ u hu rfl
  cases e
  exact jN g λ_ _ _ _ _ _ h1=>jN g2 λ_ _ _ _ _ _ h2=>(yr ih l m _ _ hl hm h1 h2).trans (rY (λ_ _=>V.lst.inj) l m)
theorem K9{d e k u c:Nat}(h:d≤k)(hk:k≤8)(hu:u+8<c):u+min d e<c:=Nat.lt_of_le_of_lt (Nat.add_le_add_left (cV (Nat.min_le_left _ _) (cV h hk)) u) hu
theorem Room.u8{A:Around}{c:Nat}(hR:Room A c):A.units+8<cLine:=Nat.lt_of_lt_of_le (Nat.add_lt_add_of_le_of_lt (Nat.le_add_right _ _) (aD rfl)) hR.2.2
theorem J7(B:bE X mg mb){A:Around}{μ:Mu}{s:Shared}{v u:V}{x y:Value}(hx:VR X μ s.heap v x)(hy:VR X μ s.heap u y){k:Nat}(h1:bl k v=true)(h2:bl k u=true)(hk:k≤8){c:Nat}(hR:Room A c)
  {Q:Value→Shared→Prop}{E:Value→Shared→Prop}(h:Q (.bool (decide (v=u))) s):wpAny (model X.prog X.w) A (compareOp .Eq x y) Q E s:=
 gj (kR B k v h1 x hx) λe1 c1 d1=>gj (kR B k u h2 y hy) λe2 c2 d2=>bK e1 λas r1=>bK e2 λbs r2=>
  SeqAt.compareEq_reads r1 r2 c1 c2 (K9 d1 hk hR.u8) (ay (tg B k v h1 x u y hx h2 hy) h)
theorem N4(B:bE X mg mb){A:Around}{μ:Mu}{s:Shared}{v u:V}{x y:Value}(hx:VR X μ s.heap v x)(hy:VR X μ s.heap u y){k:Nat}(h1:bl k v=true)(h2:bl k u=true)(hk:k≤8){c:Nat}(hR:Room A c)
  {Q:Value→Shared→Prop}{E:Value→Shared→Prop}(h:Q (.bool (!decide (v=u))) s):wpAny (model X.prog X.w) A (compareOp .NotEq x y) Q E s:=
 gj (kR B k v h1 x hx) λe1 c1 d1=>gj (kR B k u h2 y hy) λe2 c2 d2=>bK e1 λas r1=>bK e2 λbs r2=>
  SeqAt.compareNe_reads r1 r2 c1 c2 (K9 d1 hk hR.u8) (ay (tg B k v h1 x u y hx h2 hy) h)
theorem CL(B:bE X mg mb){A:Around}{μ:Mu}{s:Shared}{v u:V}{x y:Value}(hx:VR X μ s.heap v x)(hy:VR X μ s.heap u y){k:Nat}(h1:bl k v=true)(h2:bl k u=true)(hk:k≤8)(hu:A.units+8<cLine):
  SeqAt.EqAt A s x y (decide (v=u)):=
 gj (kR B k v h1 x hx) λe1 c1 d1=>gj (kR B k u h2 y hy) λe2 c2 d2=>bK e1 λas r1=>bK e2 λbs r2=>
  uE (tg B k v h1 x u y hx h2 hy) (SeqAt.eqAt_reads _ _ _ _ _ _ _ _ r1 r2 c1 c2 (K9 d1 hk hu))
end
section
variable {prog:Program} {w:World} {A:Around} {E:Value→Shared→Prop} {s:Shared}
noncomputable def mP(prog:Program)(w:World)(h:Heap)(k:Int × List Int)(a:Addr):Prop:=
 ∃o az n u b,h.get? a=some o∧o.cls=.type "tuple"∧o.data=.seq az n∧az.toList=[.int k.1 u,.ref b]∧IsTupleKey (intKind prog w) h k.2 b
theorem mP.typeIs{k:Int × List Int}{a:Addr}(x:mP prog w s.heap k a):s.TypeIs (.ref a) "tuple":=let⟨o,_,_,_,_,ho,hc,_⟩:=x;⟨o,ho,hc⟩
theorem mP.inj{h:Heap}{a:Addr}{x y:Int × List Int}(hx:mP prog w h x a)(hy:mP prog w h y a):x=y:=by
 refine dY λG hG=>?_
 refine HO hx λo az n u b ho _ hd hi ht=>?_
 obtain⟨o',items',n',u',b',ho',_,jg,hi',ht'⟩:=hy
 obtain rfl:o=o':=aX (ho.symm.trans ho')
 refine hG ?_
 rw[hd] at jg
 injection jg with h1 _
 subst h1
 rw[hi] at hi'
 simp only[List.cons.injEq,Value.int.injEq,Value.ref.injEq,and_true] at hi'
 obtain⟨⟨e1,_⟩,rfl⟩:=hi'
 exact Prod.ext e1 (ht.inj ht')
theorem mP.keeps{h h':Heap}{k:Int × List Int}{a d:Addr}{o:Obj}{es ep}(x:mP prog w h k a)(ho:h.get? d=some o)(hd:o.data=.dict es ep)(hs:Heap.SameBut d h h'):mP prog w h' k a:=by
 refine HO x λo' az n u b ho' hc jg hi ht=>?_
 have bT:a≠d:=by
  rintro rfl
  obtain rfl:o'=o:=aX (ho'.symm.trans ho)
  rw[hd] at jg;exact nomatch jg
 exact⟨o',az,n,u,b,(hs.2 a bT).trans ho',hc,jg,hi,ht.keeps ho hd hs⟩
theorem HV{k:Int × List Int}{a:Addr}{Q:Int→Shared→Prop}(hu:A.units+1<cLine)(hk:mP prog w s.heap k a)(h:Q (wM k) {s with toks:=s.toks+(k.2.length+3)}):
  wpAny (model prog w) A (pyHash (.ref a)) Q E s:=by
 have hT:=hk.typeIs
 refine HO hk λo az n u b ho _ hd hi ht=>?_
 first|unfold pyHashByItsType|skip
 first|refine au (wpAny_cRoomFor_or (.inr (Nat.le_of_lt ‹_›)) ?_)|skip
 refine au (wpAny_specialOf hT PySem.F.slot_tuple_hash.lookup ?_)
 refine(?_:wpAny _ _ (if(some (Value.builtin "tuple.__hash__")==some Value.none)=true then _ else _) Q E s)
 refine au (wpAny_specialOf hT PySem.F.slot_tuple_hash.lookup ?_)
 refine au (wpAny_callSpecialIfBoundUnlessNone?_slot hT PySem.F.slot_tuple_hash (wpAny_call_entry PySem.F.slot_tuple_hash hT PySem.F.entry_tuple_hash ?_ (PySem.F.args_tuple_hash_1 _)))
 refine(?_:wpAny _ _ (Builtin.Tuple.tupleItemsOf (.ref a)>>= _) _ _ s)
 refine au (wpAny_tupleItemsOf ho hd ?_)
 refine au ?_
 refine uE Array.forIn_toList (ay hi (?_))
 rw[List.forIn_cons]
 refine au (au (wpAny_pyHash_int ?_))
 first
  |refine aT ?_
  |refine au (aT (aT ?_))
 dsimp only
 rw[List.forIn_cons]
 refine au (au (wpAny_pyHash_tuple (knd:=intKind prog w) (s:={s with toks:=s.toks+1}) (by show A.units+1<cLine;exact hu) ht ?_))
 first
  |refine aT ?_
  |refine au (aT (aT ?_))
 dsimp only
 refine aT ?_
 have hh:(((#[]:Array Int).push (hashInt k.1)).push (tupleKeyHash (intKind prog w) k.2)).toList=[hashInt k.1,tupleKeyHash (intKind prog w) k.2]:=rfl
 refine(?_:wpAny _ _ (retInt (Builtin.Tuple.tupleHashOf (((#[]:Array Int).push (hashInt k.1)).push (tupleKeyHash (intKind prog w) k.2)).toList)) _ _ _)
 refine ay hh ?_
 refine wpAny_ret_mkInt ?_
 generalize hz:Builtin.Tuple.tupleHashOf [hashInt k.1,tupleKeyHash (intKind prog w) k.2]=z
 show wpAny _ _ (if(decide (-(2:Int) ^ 63≤z)&&decide (z<2 ^ 63))=true then _ else _) Q E _
 have e:wM k=reduceHash z:=by rw[←hz];rfl
 rw[e] at h
 unfold reduceHash at h
 have et:s.toks+1+(k.2.length+1)+1=s.toks+(k.2.length+3):=by exact dH (cP [_,_] 1 (.add (.add (.add vA (.num 1)) (.add vB (.num 1))) (.num 1)) (.add vA (.add vB (.num 3))) [] aI) (cP [_,_] 1 (.add vA (.add vB (.num 3))) (.add (.add (.add vA (.num 1)) (.add vB (.num 1))) (.num 1)) [] aI)
 by_cases hr:(decide (-(2:Int) ^ 63≤z)&&decide (z<2 ^ 63))=true
 ·refine ay (aC hr) (?_)
  rw[aC hr] at h
  exact aT (by simpa[et] using h)
 ·refine ay (aB hr) (?_)
  rw[aB hr] at h
  exact au (wpAny_rule (aT (by simpa[et] using h)))
noncomputable def yu(k:Int × List Int):PyData:= .tuple [.int k.1,.tuple (k.2.map .int)]
theorem yv{h:Heap}{ks:List Int}{vs:List Value}(x:ItemsAre (intKind prog w) ks vs):∃as,ReadsAll h vs (ks.map .int) as:=by
 induction x with
 |nil=>exact⟨_,.nil⟩
 | @cons k v ks vs h1 _ ih=>
  refine bK ih λas r=>?_
  refine bK (Value.isInt_shape h1) λt bP=>?_
  refine ay bP ?_
  exact⟨_,.cons (.int _ _) r⟩
theorem qZ:∀ks:List Int,PyData.canLayAll0 (ks.map .int)=true
 | []=>rfl
 |_::r=>by simp[PyData.canLayAll0,PyData.canLay0,qZ r]
theorem tn:∀ks:List Int,PyData.depthAll (ks.map .int)≤1
 | []=>by simp[PyData.depthAll]
 |_::r=>by have:=tn r;simp only[fm,PyData.depthAll,PyData.depth];lia
theorem yw:∀ks js:List Int,PyData.eqvAll (ks.map .int) (js.map .int)=decide (ks=js)
 | [],[]=>by simp[PyData.eqvAll]
 | [],_::_=>by simp[PyData.eqvAll]
 |_::_,[]=>by simp[PyData.eqvAll]
 |a::r,b::q=>by
  simp only[fm,PyData.eqvAll,PyData.eqv,yw r q,List.cons.injEq]
  by_cases e:a=b<;>by_cases f:r=q<;>simp[e,f]
theorem yz{h:Heap}{k:Int × List Int}{a:Addr}(x:mP prog w h k a):∃as,Reads h (.ref a) (yu k) as:=by
 refine dY λG hG=>?_
 obtain⟨o,az,n,u,b,ho,hc,hd,hi,o',items',n',ho',hc',jg,hi'⟩:=x
 obtain⟨as,r⟩:=yv (h:=h) hi'
 refine hG ?_
 exact⟨_,.tuple ho hc hd (by rw[hi];exact .cons (.int _ _) (.cons (.tuple ho' hc' jg r) .nil))⟩
theorem EN(k:Int × List Int):(yu k).canLay0=true:=by simp[yu,PyData.canLay0,PyData.canLayAll0,qZ]
theorem EO(k:Int × List Int):(yu k).depth≤4:=by
 have:=tn k.2
 simp only[yu,PyData.depth,PyData.depthAll];lia
theorem La(x y:Int × List Int):PyData.eqv (yu x) (yu y)=decide (x=y):=by
 obtain⟨a,l⟩:=x
 obtain⟨b,m⟩:=y
 simp only[yu,PyData.eqv,PyData.eqvAll,yw,Prod.mk.injEq]
 by_cases e:a=b<;>by_cases f:l=m<;>simp[e,f]
theorem N5{x y:Int × List Int}{a b:Addr}{Q:Bool→Shared→Prop}(hu:A.units+5<cLine)(hx:mP prog w s.heap x a)(hy:mP prog w s.heap y b)(h:Q (decide (x=y)) s):
  wpAny (model prog w) A (eqBool (.ref a) (.ref b)) Q E s:=by
 refine bK (yz hx) λas r1=>?_
 obtain⟨bs,r2⟩:=yz hy
 refine SeqAt.eqAt_reads _ _ A s _ _ _ _ r1 r2 (EN x) (EN y) (by have:=EO x;lia) prog w E Q ?_
 rw[La];exact h
theorem CM{d:Nat}{ks:List Int}{a:Addr}{Q:Bool→Shared→Prop}(hk:IsTupleKey (intKind prog w) s.heap ks a)(h:Q true s):wpAny (model prog w) A (eqIsQuiet (d+1) (.ref a)) Q E s:=by
 have hT:=hk.typeIs
 refine jN hk λo az n ho _ hd hi=>?_
 unfold eqIsQuiet
 refine au (wpAny_specialOf hT PySem.F.slot_tuple_eq.lookup ?_)
 refine(?_:wpAny _ _ (isInstance (.ref a) (.type "tuple")>>= _) _ _ s)
 refine au (wpAny_isInstance hT isSubtype_tuple_tuple ?_)
 refine au (wpAny_seqItems ho hd ?_)
 refine au ?_
 clear ho hT hk
 refine uE Array.forIn_toList (?_)
 refine wpAny_forIn_list _ (λdO r s'=>r.1=none∧s'=s∧∀v∈dO,carriedByValue v=true) _ ?_ ?_ _ _ ⟨rfl,rfl,hi.byValue⟩
 ·rintro v dO r s' ⟨hr,rfl,hall⟩
  refine ay (eqIsQuiet_byValue _ (hall v List.mem_cons_self)) (?_)
  refine au (aT ?_)
  exact aT ⟨rfl,rfl,λu Lb=>hall u (List.mem_cons_of_mem _ Lb)⟩
 ·rintro⟨r1,r2⟩ s' ⟨hr,rfl,_⟩
  simp only at hr
  refine ay hr ?_
  exact aT h
theorem EP{k:Int × List Int}{a:Addr}{Q:Bool→Shared→Prop}(hk:mP prog w s.heap k a)(h:Q true s):wpAny (model prog w) A (eqIsQuiet 8 (.ref a)) Q E s:=by
 have hT:=hk.typeIs
 refine HO hk λo az n u b ho _ hd hi ht=>?_
 unfold eqIsQuiet
 refine au (wpAny_specialOf hT PySem.F.slot_tuple_eq.lookup ?_)
 refine(?_:wpAny _ _ (isInstance (.ref a) (.type "tuple")>>= _) _ _ s)
 refine au (wpAny_isInstance hT isSubtype_tuple_tuple ?_)
 refine au (wpAny_seqItems ho hd ?_)
 refine au ?_
 refine(?_:wpAny _ _ (forIn az _ _) _ _ s)
 clear ho hT hk
 refine uE Array.forIn_toList (?_)
 refine wpAny_forIn_list _ (λdO r s'=>r.1=none∧s'=s∧∀v∈dO,carriedByValue v=true∨v=.ref b) _ ?_ ?_ _ _ ⟨rfl,rfl,by rw[hi];simp[carriedByValue]⟩
 ·rintro v dO r s' ⟨hr,rfl,hall⟩
  refine au ?_
  have one:wpAny (model prog w) A (eqIsQuiet 7 v) (λb s''=>b=true∧s''=s') E s':=by
   rcases hall v List.mem_cons_self with z|rfl
   ·rw[eqIsQuiet_byValue _ z];exact aT ⟨rfl,rfl⟩
   ·exact CM ht ⟨rfl,rfl⟩
  refine fq one (λb s'' z=>?_) λ_ _ z=>z
  clear one ht
  obtain⟨rfl,rfl⟩:=z
  exact aT ⟨rfl,rfl,λu Lb=>hall u (List.mem_cons_of_mem _ Lb)⟩
 ·rintro⟨r1,r2⟩ s' ⟨hr,rfl,_⟩
  simp only at hr
  refine ay hr ?_
  exact aT h
end
noncomputable def jc(prog:Program)(w:World):HeapKind prog w (Int × List Int) where
 is:=mP prog w
 hash:=wM
 draws:=λk=>k.2.length+3
 room:=λA=>A.units+5<cLine
 inj:=λhx hy=>hx.inj hy
 keeps:=λx ho hd hs=>x.keeps ho hd hs
 pyHash:=λhu hk h=>HV (by omega) hk h
 eqBool:=λhu hx hy h=>N5 hu hx hy h
 quiet:=λhk h=>EP hk h
section lists
variable {K:Type} [DecidableEq K] {rel:V→K→Prop} {vr:V→Value→Prop}
section
variable {p:V × V} {r:List (V × V)} {k v:V}
theorem vm(e:p.1=k):aQ (p::r) k=some p.2:=aC e
theorem tu(e:¬p.1=k):aQ (p::r) k=aQ r k:=aB e
theorem yC(e:p.1=k):cA (p::r) k v=(p.1,v)::r:=aC e
theorem vn(e:¬p.1=k):cA (p::r) k v=p::cA r k v:=aB e
theorem ER(e:p.1=k):fU (p::r) k=r:=aC e
theorem CN(e:¬p.1=k):fU (p::r) k=p::fU r k:=aB e
end
section
variable {j j':K} {x y:Value} {q:List (K × Value)}
theorem yD(e:j'=j):valueAt ((j',x)::q) j=some x:=aj (Option.map Prod.snd) (List.find?_cons_of_pos (p:=λkv:K × Value=>decide (kv.1=j)) (a:=(j',x)) (fk e))
theorem wR(e:¬j'=j):valueAt ((j',x)::q) j=valueAt q j:=aj (Option.map Prod.snd) (List.find?_cons_of_neg (p:=λkv:K × Value=>decide (kv.1=j)) (a:=(j',x)) λh=>e (dw h))
theorem yE(hn:¬j'=j):stored ((j',x)::q) j y=(j',x)::stored q j y:=by
 have e:(((j',x)::q).any λkv=>decide (kv.1=j))=q.any λkv=>decide (kv.1=j):=aj (· ||_) (gM hn)
 unfold stored
 rw[e,fm,aB hn]
 split<;>rfl
theorem ES{l:List (K × Value)}(h:j∉l.map (·.1)):l.map (λkv=>if kv.1=j then(kv.1,y) else kv)=l:=by
 induction l with
 |nil=>rfl
 |cons a r ih=>rw[fm,aB λe=>h (List.mem_cons.mpr (.inl (Eq.symm e))),ih λz=>h (.tail _ z)]
theorem Al(e:j'=j)(hn:(((j',x)::q).map (·.1)).Nodup):stored ((j',x)::q) j y=(j',y)::q:=by
 subst e
 unfold stored
 rw[aC (by simp),fm,aC rfl,ES (fG hn).1]
theorem yF(e:j'=j)(hn:(((j',x)::q).map (·.1)).Nodup):without ((j',x)::q) j=q:=by
 subst e
 exact(List.filter_cons_of_neg (by simp)).trans (without_of_not_mem q j' (fG hn).1)
theorem wU(e:¬j'=j):without ((j',x)::q) j=(j',x)::without q j:=List.filter_cons_of_pos (fk e)
end
theorem jb.find{k:V}{j:K}(inj:∀k' j',rel k' j'→(k'=k↔j'=j)){es:List (V × V)}{ds:List (K × Value)}(g:jb rel vr es ds):(∀v,aQ es k=some v→∃x,valueAt ds j=some x∧vr v x)∧(aQ es k=none→valueAt ds j=none):=by
 induction es generalizing ds with
 |nil=>exact⟨λv e=>fY e,λ_=>g▸rfl⟩
 |cons p r ih=>
  refine jb.eC g λj' x q h1 h2 h3=>?_
  exact if e:p.1=k then ay (vm e) (ay (yD ((inj p.1 j' h1).mp e)) ⟨λu hu=>⟨x,rfl,aX hu▸h2⟩,λhu=>fY hu.symm⟩)
   else ay (tu e) (ay (wR λz=>e ((inj p.1 j' h1).mpr z)) (ih h3))
theorem jb.put{k:V}{j:K}{v:V}{y:Value}(hk:rel k j)(inj:∀k' j',rel k' j'→(k'=k↔j'=j))(hv:vr v y){es:List (V × V)}:∀{ds:List (K × Value)},jb rel vr es ds→(ds.map (·.1)).Nodup→jb rel vr (cA es k v) (stored ds j y):=by
 induction es with
 |nil=>exact λ{ds} g _=>ay (P:=λds=>jb rel vr [(k,v)] (stored ds j y)) g ⟨j,y,[],rfl,hk,hv,rfl⟩
 |cons p r ih=>
  exact λ{ds} g=>jb.eC g λj' x q h1 h2 h3 hn=>if e:p.1=k then ay (yC e) (ay (Al ((inj p.1 j' h1).mp e) hn) ⟨j',y,q,rfl,h1,hv,h3⟩)
   else ay (vn e) (ay (yE λz=>e ((inj p.1 j' h1).mpr z)) ⟨j',x,_,rfl,h1,h2,ih h3 (fG hn).2⟩)
theorem jb.del{k:V}{j:K}(inj:∀k' j',rel k' j'→(k'=k↔j'=j)){es:List (V × V)}:∀{ds:List (K × Value)},jb rel vr es ds→(ds.map (·.1)).Nodup→jb rel vr (fU es k) (without ds j):=by
 induction es with
 |nil=>exact λ{ds} g _=>ay (P:=λds=>jb rel vr [] (without ds j)) g rfl
 |cons p r ih=>
  exact λ{ds} g=>jb.eC g λj' x q h1 h2 h3 hn=>if e:p.1=k then ay (ER e) (ay (yF ((inj p.1 j' h1).mp e) hn) h3)
   else ay (CN e) (ay (wU λz=>e ((inj p.1 j' h1).mpr z)) ⟨j',x,_,rfl,h1,h2,ih h3 (fG hn).2⟩)
theorem jb.length{es:List (V × V)}:∀{ds:List (K × Value)},jb rel vr es ds→es.length=ds.length:=by
 induction es with
 |nil=>exact λ{ds} g=>ay g rfl
 |cons p r ih=>exact λ{ds} g=>jb.eC g λ_ _ _ _ _ h=>aj Nat.succ (ih h)
end lists
theorem yG{l:List Int}:∀{m:List Int},l.map V.int=m.map V.int→l=m:=by
 induction l with
 |nil=>intro m e;cases m with
  |nil=>rfl
  |cons=>exact nomatch e
 |cons a r ih=>intro m e;cases m with
  |nil=>exact nomatch e
  |cons b q=>exact congr (aj List.cons (V.int.inj (List.cons.inj e).1)) (ih (List.cons.inj e).2)
theorem wV{a b:Int × List Int}(h:pn a=pn b):a=b:=
 have h:=List.cons.inj (V.tup.inj h)
 Prod.ext (V.int.inj h.1) (yG (V.tup.inj (List.cons.inj h.2).1))
section
variable {X:Ctx} {μ:Mu} {h:Heap}
section
variable {j j':Int × List Int} {a b:Addr} {x y:Value} {q:BI}
theorem vo(e:j'=j):atKey ((j',b,x)::q) j=some (b,x):=aj (Option.map Prod.snd) (List.find?_cons_of_pos (p:=λx:(Int × List Int) × Addr × Value=>decide (x.1=j)) (a:=(j',b,x)) (fk e))
theorem tw(e:¬j'=j):atKey ((j',b,x)::q) j=atKey q j:=aj (Option.map Prod.snd) (List.find?_cons_of_neg (p:=λx:(Int × List Int) × Addr × Value=>decide (x.1=j)) (a:=(j',b,x)) λh=>e (dw h))
theorem wW(hn:¬j'=j):storedH ((j',a,x)::q) j b y=(j',a,x)::storedH q j b y:=by
 unfold storedH
 rw[tw hn,fm,show putAt j y (j',a,x)=(j',a,x) from aB hn]
 split<;>rfl
theorem yH(e:j'=j)(hn:(((j',a,x)::q).map (·.1)).Nodup):storedH ((j',a,x)::q) j b y=(j',a,y)::q:=by
 subst e
 unfold storedH
 rw[aC (show(atKey ((j',a,x)::q) j').isSome=true from(aj Option.isSome (vo rfl))),fm,map_putAt_of_not_mem q j' y (fG hn).1,show putAt j' y (j',a,x)=(j',a,y) from aC rfl]
end
theorem kL.find{j:Int × List Int}{es:List (V × V)}{ds:BI}(g:kL X μ h es ds):(∀v,aQ es (pn j)=some v→∃a x,atKey ds j=some (a,x)∧VR X μ h v x)∧(aQ es (pn j)=none→atKey ds j=none):=by
 induction es generalizing ds with
 |nil=>exact⟨λv e=>fY e,λ_=>g▸rfl⟩
 |cons p r ih=>
  refine kL.eC g λj' b x q e _ h2 h3=>?_
  exact if e':j'=j then ay (vm (e.trans (aj pn e'))) (ay (vo e') ⟨λu hu=>⟨b,x,rfl,aX hu▸h2⟩,λhu=>fY hu.symm⟩)
   else ay (tu λz=>e' (wV (e.symm.trans z))) (ay (tw e') (ih h3))
theorem kL.put{j:Int × List Int}{v:V}{b:Addr}{y:Value}(hk:VR X μ h (pn j) (.ref b))(hv:VR X μ h v y){es:List (V × V)}:∀{ds:BI},kL X μ h es ds→(ds.map (·.1)).Nodup→kL X μ h (cA es (pn j) v) (storedH ds j b y):=by
 induction es with
 |nil=>exact λ{ds} g _=>ay (P:=λds=>kL X μ h [(pn j,v)] (storedH ds j b y)) g ⟨j,b,y,[],rfl,rfl,hk,hv,rfl⟩
 |cons p r ih=>
  exact λ{ds} g=>kL.eC g λj' c x q e h1 h2 h3 hn=>if e':j'=j then ay (yC (e.trans (aj pn e'))) (ay (yH e' hn) ⟨j',c,y,q,rfl,e,h1,hv,h3⟩)
   else ay (vn λz=>e' (wV (e.symm.trans z))) (ay (wW e') ⟨j',c,x,_,rfl,e,h1,h2,ih h3 (fG hn).2⟩)
theorem kL.length{es:List (V × V)}:∀{ds:BI},kL X μ h es ds→es.length=ds.length:=by
 induction es with
 |nil=>exact λ{ds} g=>ay g rfl
 |cons p r ih=>exact λ{ds} g=>kL.eC g λ_ _ _ _ _ _ _ h=>aj Nat.succ (ih h)
theorem ET{prog:Program}{w:World}{l:List Int}:∀{vs:List Value},bN X μ h (l.map .int) vs→ItemsAre (intKind prog w) l vs:=by
 induction l with
 |nil=>exact λ{vs} g=>ay g .nil
 |cons a r ih=>exact λ{vs} g=>bN.eC g λy q h1 h2=>VR.gf h1 λt=> .cons (fk rfl) (ih h2)
theorem pO{j:Int × List Int}{x:Value}(g:VR X μ h (pn j) x):∃a,x=.ref a∧mP X.prog X.w h j a:=
 VR.uK g λa az n _ ho hv=>fj hv λy q e g1 hv=>bK g1 λt e1=>fj hv λy2 q2 e2 g2 g3=>jN g2 λb its m e3 _ ho2 hi=>
  ⟨a,rfl,_,az,n,t,b,ho,rfl,rfl,e.trans (congr (aj List.cons e1) (e2.trans (congr (aj List.cons e3) g3))),_,its,m,ho2,rfl,rfl,ET hi⟩
theorem kL.is{es:List (V × V)}:∀{ds:BI},kL X μ h es ds→∀x∈ds,mP X.prog X.w h x.1 x.2.1:=by
 induction es with
 |nil=>exact λ{ds} g=>ay g K4
 |cons p r ih=>
  exact λ{ds} g=>kL.eC g λj b x q e h1 h2 h3 z hz=>(eH hz).elim (λez=>ay ez (aA (pO (e▸h1)) λb' e' t=>ay (P:=λa=>mP X.prog X.w h j a) (Value.ref.inj e') t)) (ih h3 z)
theorem BO{v:V}(h:HE v=true):∃i,v=.int i:=by cases v<;>first|exact nB h|exact⟨_,rfl⟩
theorem EU{v:V}(h:HF v=true):∃l,v=.tup l∧wA l=true:=by cases v<;>first|exact nB h|exact⟨_,rfl,h⟩
theorem Am{l:List V}:wA l=true→∃m:List Int,l=m.map .int:=by
 induction l with
 |nil=>exact λ_=>⟨[],rfl⟩
 |cons v r ih=>exact λh=>bK (BO (aL h)) λi e=>bK (ih (aR h)) λm e2=>⟨i::m,congr (aj List.cons e) e2⟩
theorem Lc{P:List V→Nat→Prop}(h0:∀l,P l 0)(h3:∀z(l:List Int),P [.int z,.tup (l.map .int)] 3)(l:List V):P l (Ub l):=by
 rcases l with _|⟨a,_|⟨b,_|_⟩⟩<;>first|exact h0 _|skip
 refine(?_:P [a,b] (bif HE a&&HF b then 3 else 0))
 cases h:HE a&&HF b with
 |false=>exact h0 _
 |true=>exact bK (BO (aL h)) λi e=>aA (EU (aR h)) λl e1 e2=>bK (Am e2) λm e3=>ay e (ay e1 (ay e3 (h3 i m)))
theorem BP{P:V→Nat→Prop}(h0:∀v,P v 0)(h1:∀j,P (.int j) 1)(h2:∀j,P (.str j) 2)(h3:∀j,P (pn j) 3)(v:V):P v (kk v):=by
 cases v<;>first|exact h0 _|skip
 ·exact h1 _
 ·exact h2 _
 ·exact Lc (P:=λl n=>P (.tup l) n) (λ_=>h0 _) (λz l=>h3 (z,l)) _
theorem EW{k:V}(g:kk k=3):∃j,k=pn j:=BP (P:=λv n=>n=3→∃j,v=pn j) (λ_=>nofun) (λ_=>nofun) (λ_=>nofun) (λj _=>⟨j,rfl⟩) k g
theorem tC{k:V}(g:kk k=1):∃j,k=.int j:=BP (P:=λv n=>n=1→∃j,v=.int j) (λ_=>nofun) (λj _=>⟨j,rfl⟩) (λ_=>nofun) (λ_=>nofun) k g
theorem tD{k:V}(g:kk k=2):∃j,k=.str j:=BP (P:=λv n=>n=2→∃j,v=.str j) (λ_=>nofun) (λ_=>nofun) (λj _=>⟨j,rfl⟩) (λ_=>nofun) k g
theorem yI(k:V):kk k=0∨kk k=1∨kk k=2∨kk k=3:=BP (P:=λ_ n=>n=0∨n=1∨n=2∨n=3) (λ_=> .inl rfl) (λ_=> .inr (.inl rfl)) (λ_=> .inr (.inr (.inl rfl))) (λ_=> .inr (.inr (.inr rfl))) k
theorem J8(l:List Int):wA (l.map .int)=true:=by
 induction l with
 |nil=>rfl
 |cons a r ih=>exact ih
theorem fy.N6{a:Addr}{k:Nat}{es:List (V × V)}(d:fy X μ h a k es)(hk:k=0∨k=3):∃xs,h.DictOfH (jc X.prog X.w) a xs∧(xs.map (·.1)).Nodup∧kL X μ h es xs:=by
 rcases hk with rfl|rfl
 ·exact bK d.2 λn g=>⟨[],⟨_, #[],n,g,⟨rfl,rfl,rfl⟩,rfl,rfl,K4,List.nodup_nil⟩,List.nodup_nil,ay d.1 rfl⟩
 ·exact jN d λds n xs g e nd t=>⟨xs,⟨_,ds,n,g,⟨rfl,rfl,rfl⟩,rfl,e,t.is,nd⟩,nd,t⟩
theorem fy.UA{a:Addr}{es:List (V × V)}{xs:BI}(d:h.DictOfH (jc X.prog X.w) a xs)(t:kL X μ h es xs):fy X μ h a 3 es:=
 Er d λo ds n g x e q _ nd=>⟨ds,n,xs,g.trans (aj some (vg x e)),q,nd,t⟩
theorem fy.Ld{a:Addr}{k:Nat}{es:List (V × V)}(d:fy X μ h a k es)(hk:k=0∨k=1):∃kvs,h.DictOf (intKind X.prog X.w) a kvs∧jb sP (VR X μ h) es kvs:=by
 rcases hk with rfl|rfl
 ·exact bK d.2 λn g=>⟨[],⟨_, #[],n,g,⟨rfl,rfl,rfl⟩,rfl,λe he=>absurd he (Array.not_mem_empty e),.nil,List.nodup_nil⟩,ay d.1 rfl⟩
 ·exact d
theorem fy.RA{a:Addr}{k:Nat}{es:List (V × V)}(d:fy X μ h a k es)(hk:k=0∨k=2):∃kvs,h.DictOf (strKind X.prog X.w) a kvs∧jb (rK X) (VR X μ h) es kvs:=by
 rcases hk with rfl|rfl
 ·exact bK d.2 λn g=>⟨[],⟨_, #[],n,g,⟨rfl,rfl,rfl⟩,rfl,λe he=>absurd he (Array.not_mem_empty e),.nil,List.nodup_nil⟩,ay d.1 rfl⟩
 ·exact d
theorem g7{K:Type} [DecidableEq K]{prog:Program}{w:World}{knd:KeyKind prog w K}{a:Addr}{kvs:List (K × Value)}(d:h.DictOf knd a kvs):(kvs.map (·.1)).Nodup:=Er d λ_ _ _ _ _ _ _ _ n=>n
theorem jD(j:Int):∀k' j',sP k' j'→(k'=.int j↔j'=j):=λk' j' e=>ay (show k'=.int j' from e) ⟨V.int.inj,aj V.int⟩
theorem iV{mg mb:Str→Option Value}(B:bE X mg mb){n:Nat}(hn:n<aO.length):∀k' j',rK X k' j'→(k'=.str n↔j'=X.NM n):=λk' j' g=>
 gC g λm hm e1 e2=>ay e1 (uE e2 ⟨λe=>aj X.NM (V.str.inj e),λe=>aj V.str (B.inj m n hm hn e)⟩)
end
section
variable {X:Ctx} {n:Nat} {xs:List Nat} {mg mb:Str→Option Value}
theorem wX{i:Int}(h:gY i=true):i.natAbs<2 ^ 200:=by
 simp only[gY,Bool.and_eq_true,decide_eq_true_eq] at h
 omega
theorem tE{i:Int}(h:gY i=true):i.natAbs.log2<200:=by
 by_cases z:i.natAbs=0
 ·rw[z];decide
 ·exact(Nat.log2_lt z).mpr (wX h)
theorem lR{i:Int}(h:gY i=true):Builtin.Int.intBits i≤200:=by
 have:=tE h
 unfold Builtin.Int.intBits
 split<;>(first|exact aD rfl|exact this)
theorem An{a b:Int}(h:0≤a∧0≤b):Builtin.bitAnd a b=((a.toNat &&& b.toNat:Nat):Int):=by
 unfold Builtin.bitAnd
 exact ay (fk h.1) (ay (fk h.2) (rfl))
theorem CO{a b:Int}(h:0≤a∧0≤b):Builtin.bitOr a b=((a.toNat ||| b.toNat:Nat):Int):=by
 refine bK (Int.eq_ofNat_of_zero_le h.1) λm bP=>?_
 refine ay bP ?_
 refine bK (Int.eq_ofNat_of_zero_le h.2) λk bP=>?_
 subst bP
 have e1:Builtin.bitNot (m:Int)= -(m:Int)-1:=rfl
 have e2:Builtin.bitNot (k:Int)= -(k:Int)-1:=rfl
 unfold Builtin.bitOr
 refine e1▸e2▸ ?_
 unfold Builtin.bitAnd
 refine ay (gM (by lia)) (ay (gM (by lia:¬(0:Int)≤ -(k:Int)-1)) (?_))
 dsimp only
 refine ay ((by show-(-(m:Int)-1)-1=_;lia:Builtin.bitNot (-(m:Int)-1)=(m:Int))) (ay ((by show-(-(k:Int)-1)-1=_;lia:Builtin.bitNot (-(k:Int)-1)=(k:Int))) (?_))
 rw[(by intro z;show-(-z-1)-1=z;lia:∀z:Int,Builtin.bitNot (Builtin.bitNot z)=z)]
theorem BQ{prog:Program}{w:World}{A:Around}{s:Shared}{op:Op}{o:Operator}(ho:CD op o=true){a b i:Int}{t u:Tok}(hi:binI op a b=some i){Q:Value→Shared→Prop}{E:Value→Shared→Prop}
  (q:∀tk,Q (.int i tk) {s with toks:=s.toks+1}):wpAny (model prog w) A (binaryOp o (.int a t) (.int b u)) Q E s:=by
 cases dw ho
 cases op
 ·cases hi;exact PySem.P.add_int (q _)
 ·cases hi;exact PySem.P.sub_int (q _)
 ·obtain⟨z,rfl⟩:=uF hi
  simp only[Bool.and_eq_true] at z
  refine PySem.P.mul_int (q _) ?_
  have z1:=lR z.1
  have z2:=lR z.2
  unfold IntMulOk
  simp only[Bool.and_eq_true,decide_eq_true_eq,not_and,Builtin.Int.intTooBig]
  intro _ hh
  have:bitsLine=2 ^ 27:=rfl
  exact qq [_,_,_] [.s 1 vA (.add vB vC),.l 1 vB (.num 200),.l 1 vC (.num 200),.f 1 vA (.num 134217728)] aI hh (gh z1) (gh z2) (aj Int.ofNat this)
 ·obtain⟨z,rfl⟩:=uF hi
  exact PyProof.Rows.floordiv_int z.1 (q _) (.inl (PyProof.noPylong_of_log2 (Nat.lt_of_lt_of_le (tE z.2) (aD rfl))))
 ·obtain⟨z,rfl⟩:=uF hi
  exact PyProof.Rows.mod_int' z (q _)
 ·obtain⟨z,rfl⟩:=uF hi
  simp only[Bool.and_eq_true,CC,decide_eq_true_eq] at z
  refine PyProof.Rows.pow_int z.2.1 ?_ (q _)
  have z1:=lR z.1
  have:(Builtin.Int.intBits a:Int)*b≤200*200:=by
   refine Int.le_trans (Int.mul_le_mul_of_nonneg_right (c:=b) (b:=200) (by exact lD [_] 1 vA (.num 200) [.l 1 vA (.num 200)] aI (gh z1)) z.2.1) ?_
   exact lD [_] 1 (.mulL 200 vA) (.mulL 200 (.num 200)) [.l 200 vA (.num 200)] aI z.2.2
  exact lD [_] 1 vA (.num 134217728) [.l 1 vA (.mulL 200 (.num 200))] aI this
 ·obtain⟨z,rfl⟩:=uF hi
  simp only[Bool.and_eq_true,CC,decide_eq_true_eq] at z
  refine PyProof.Rows.lshift_int z.2.1 ?_ (q _)
  have z1:=lR z.1
  exact lD [_,_] 1 (.add vA vB) (.num 134217728) [.l 1 vB (.num 200),.l 1 vA (.num 200)] aI z.2.2 (gh z1)
 ·obtain⟨z,rfl⟩:=uF hi
  simp only[CC,Bool.and_eq_true,decide_eq_true_eq] at z
  exact PyProof.Rows.rshift_int z.1 (q _)
 ·obtain⟨z,rfl⟩:=uF hi
  refine PyProof.Rows.and_int ?_
  rw[An z];exact q _
 ·obtain⟨z,rfl⟩:=uF hi
  refine PyProof.Rows.or_int ?_
  rw[CO z];exact q _
theorem EY{op:Op}{v u r:V}{G:Prop}(h:jq op v u=some r)(k1:∀a b,v=.int a→u=.int b→(binI op a b).map .int=some r→G)(k2:∀a b,v=.lst a→u=.lst b→op=.add→a.length+b.length≤1000→.lst (a++b)=r→G)(k3:∀a b,v=.tup a→u=.tup b→op=.add→a.length+b.length≤1000→a≠[]→b≠[]→.tup (a++b)=r→G):G:=by
 cases v<;>first|exact fY h|skip
 ·exact kE h λb e h=>k1 _ b rfl e h
 ·exact Et h λb e h=>fJ h λc h=>k3 _ b rfl e c.1 c.2.1 c.2.2.1 c.2.2.2 (aX h)
 ·exact Eu h λb e h=>fJ h λc h=>k2 _ b rfl e c.1 c.2 (aX h)
theorem Le(B:bE X mg mb){A:Around}{μ:Mu}{σ:aa}{s:Shared}(S:St X μ σ s){op:Op}{o:Operator}(ho:CD op o=true){v u r:V}{x y:Value}(hx:VR X μ s.heap v x)(hy:VR X μ s.heap u y)(he:jq op v u=some r)
  {Q:Value→Shared→Prop}{E:Value→Shared→Prop}(hQ:lE X μ s r σ Q):wpAny (model X.prog X.w) A (binaryOp o x y) Q E s:=by
 refine EY he (λa b bP cW he=>?_) (λa b bP cW Lf z yJ=>?_) (λa b bP cW Lf z na nb yJ=>?_)
 ·subst bP cW
  simp only[VR] at hx hy
  obtain⟨t,rfl⟩:=hx
  obtain⟨u,rfl⟩:=hy
  refine aA (map_some he) λi hi cW=>?_
  clear he B
  subst cW
  exact BQ ho hi λtk=>hQ _ _ _ .refl (S.tok _) (by simp only[VR];exact⟨_,rfl⟩)
 ·subst Lf bP cW yJ
  cases dw ho
  have l1:=hx
  have l2:=hy
  simp only[VR] at hx hy
  refine VR.qu hx λa1 i1 n1 W6 g1 h1=>?_
  refine VR.qu hy λa2 i2 n2 W7 g2 h2=>?_
  have e1:=h1.length
  have e2:=h2.length
  simp only[gV] at e1 e2
  refine PySem.P.add_list g1 g2 (hQ μ _ _ (cU.push _) (S.push _ _) ?_) (by rw[sizeLine_eq];omega)
  simp only[VR]
  refine⟨_,i1++i2,0,rfl,S.fresh,dz _ rfl,?_⟩
  refine ay Array.toList_append (?_)
  exact bN.mono (cU.push _) (h1.app h2)
 ·subst Lf bP cW yJ
  cases dw ho
  simp only[VR] at hx hy
  refine VR.uK hx λa1 i1 n1 W6 g1 h1=>?_
  refine VR.uK hy λa2 i2 n2 W7 g2 h2=>?_
  have e1:=h1.length
  have e2:=h2.length
  simp only[gV] at e1 e2
  have m1:¬i1.isEmpty=true:=by
   intro q;rw[Array.isEmpty_iff] at q;subst q;exact na (List.length_eq_zero_iff.mp e1)
  have m2:¬i2.isEmpty=true:=by
   intro q;rw[Array.isEmpty_iff] at q;subst q;exact nb (List.length_eq_zero_iff.mp e2)
  refine PySem.P.add_tuple g1 g2 m1 m2 (hQ μ _ _ (cU.push _) (S.push _ _) ?_) (by rw[sizeLine_eq];omega)
  simp only[VR]
  refine⟨_,i1++i2,0,rfl,S.fresh,dz _ rfl,?_⟩
  refine ay Array.toList_append (?_)
  exact bN.mono (cU.push _) (h1.app h2)
theorem EZ(B:bE X mg mb)(op:Op){a b:ME}(ha:SE X n xs a)(hb:SE X n xs b):SE X n xs (.bin op a b):=by
 intro A env ls ρ σ v τ μ s e hR hc F S he Q E hQ
 refine bw he λv1 σ1 h1 he=>?_
 refine bM (f:=λu _=>jq op v1 u) he λv2 h2 h3=>?_
 refine qy hc λ_ _ _ _ c1 c2 c3=>?_
 exact wpAny_BinOp (two ha hb hR c2 c3 F S h1 h2 λbA x y s' E' S' V1 V2=>Le B S' c1 V1 V2 h3 λAo z s'' Lg zX Lh=>hQ Ao z s'' (E'.trans Lg) zX Lh)
theorem E0{a:ME}(ha:SE X n xs a):SE X n xs (.neg a):=by
 intro A env ls ρ σ v τ μ s e hR hc F S he Q E hQ
 refine bw he λv1 σ1 h1 he=>?_
 dsimp only at he
 refine kE he λ_ bP he=>?_
 subst bP
 refine sV hc λ_ _ hc=>?_
 refine wpAny_UnaryOp (ha A env ls ρ σ _ _ μ s _ hR hc F S h1 _ _ λao x s₁ E₁ S₁ aU=>?_)
 refine VR.gf aU λt=>?_
 exact PySem.P.neg_int ((hQ.of he) _ _ _ E₁ (S₁.tok _) (by simp only[VR];exact⟨_,rfl⟩))
theorem pP{A:Around}{μ:Mu}{σ:aa}{s:Shared}(S:St X μ σ s){v:V}{x:Value}(hx:VR X μ s.heap v x){b:Bool}(he:dB v=some b){Q:Bool→Shared→Prop}{E:Value→Shared→Prop}(h:Q b s):wpAny (model X.prog X.w) A (truthy x) Q E s:=by
 cases v<;>simp only[dB] at he<;>(try (cases he;done))
 ·obtain rfl:=aX he
  simp only[VR] at hx
  refine ay hx ?_
  exact wpAny_truthy_bool h
 ·obtain rfl:=aX he
  refine VR.gf hx λt=>?_
  exact PySem.P.truthy_int h
noncomputable def gf(i:Int)(y:Value):Bool:=match y with| .int j _=>j==i|_=>false
set_option tactic.hygienic true in
theorem mQ {μ : Mu} {h : Heap} (i : Int) : ∀ {l : List V} {ys : List Value}, bN X μ h l ys → l.all HE = true → ys.any (gf i) = decide (V.int i ∈ l) ∧ ∀ y ∈ ys, ∃ j u, y = .int j u
  | [], ys, g, _ => by
    simp only [bN] at g; subst g
    exact ⟨rfl, fun y hy => by cases hy⟩
  | v :: r, ys, g, ha => by
    refine bN.eC g fun y q g1 g2 => ?_
    simp only [List.all_cons, Bool.and_eq_true] at ha
    obtain ⟨a1, a2⟩ := ha
    cases v <;> (try (cases a1; done))
    rename_i j
    refine VR.gf g1 fun t => ?_
    obtain ⟨r1, r2⟩ := mQ i g2 a2
    refine ⟨?_, fun y hy => ?_⟩
    · refine ay List.any_cons (ay r1 (?_))
      simp only [gf, V.int.injEq]
      by_cases e : j = i
      · clear r1
        subst e; simp
      · have e' : ¬ i = j := fun z => e z.symm
        simp [e, e']
    · rcases eH hy with rfl | hy
      · exact ⟨_, _, rfl⟩
      · exact r2 y hy
theorem kL.at{μ:Mu}{h:Heap}:∀{es:List (V × V)}{ds:BI}{i:Nat}{k v:V},kL X μ h es ds→es[i]? =some (k,v)→∃j a x,ds[i]? =some (j,a,x)∧k=pn j∧VR X μ h k (.ref a)∧VR X μ h v x
 | [],ds,i,k,v,g,e=>by simp at e
 |(a,u)::r,ds,i,k,v,g,e=>by
  refine Es g λj' c x q CP HW h1 h2 h3=>?_
  subst CP HW
  cases i with
  |zero=>simp at e;obtain⟨rfl,rfl⟩:=e;exact⟨j',c,x,rfl,rfl,h1,h2⟩
  |succ i=>simpa using kL.at h3 (by simpa using e)
noncomputable def g8(b:List (V × V))(e:V × V):Bool:=match aQ b e.1 with|some v=>decide (e.2=v)|none=>false
theorem E6(a b:List (V × V)):su a b=(a.length==b.length&&a.all (g8 b)):=rfl
theorem N7{n i:Nat}(h:i<n):n-i=(n-(i+1))+1:=(Nat.succ_pred_eq_of_pos (Nat.sub_pos_of_lt h)).symm
theorem N8{α:Type}{prog:Program}{w:World}{A:Around}{c:Sem α}{Q:α→Shared→Prop}{E:Value→Shared→Prop}{s:Shared}(h:∀Q':α→Shared→Prop,(∀a s,Q a s→Q' a s)→wpAny (model prog w) A c Q' E s):wpAny (model prog w) A c Q E s:=h Q λ_ _ h=>h
theorem N9{α β:Type}{prog:Program}{w:World}{A:Around}{f:α→β→Sem (ForInStep β)}{b0:β}{W:β→Shared→Prop}{E:Value→Shared→Prop}{s:Shared}{l:List α}(I:List α→Prop)
  (turn:∀x dO,I (x::dO)→∀R:ForInStep β→Shared→Prop,(I dO→R (.yield b0) s)→(∀b,W b s→R (.done b) s)→wpAny (model prog w) A (f x b0) R E s)
  (fin:I []→W b0 s)(h:I l):wpAny (model prog w) A (forIn l b0 f) W E s:=
 wpAny_forIn_list f (λl b s'=>(s'=s∧b=b0)∧I l) W (λx dO b s' h=>by
  obtain⟨⟨rfl,rfl⟩,h⟩:=h
  exact turn x dO h _ (λh=>⟨⟨rfl,rfl⟩,h⟩) λ_ h=>h) (λb s' h=>by
  obtain⟨⟨rfl,rfl⟩,h⟩:=h
  exact fin h) l b0 ⟨⟨rfl,rfl⟩,h⟩
theorem tF:∀{l:List (V × V)}{k u:V},aQ l k=some u→∃y∈l,y.2=u
 | [],_,_,z=>nomatch z
 |y::r,k,u,z=>by
  dsimp only[aQ] at z
  by_cases q:y.1=k
  ·rw[aC q] at z;exact⟨y,.head _,aX z⟩
  ·rw[aB q] at z
   obtain⟨y',m',e'⟩:=tF z
   exact⟨y',.tail _ m',e'⟩
theorem wY(B:bE X mg mb){A:Around}{μ:Mu}{s:Shared}{nm:String}{a b:Addr}{d e:List (V × V)}{xs ys:BI}{Q:Bool→Shared→Prop}{E:Value→Shared→Prop}(ha:(a==sysModules)=false)(hb:(b==sysModules)=false)
  (da:s.heap.DictOfH (jc X.prog X.w) a xs)(db:s.heap.DictOfH (jc X.prog X.w) b ys)(ta:kL X μ s.heap d xs)(tb:kL X μ s.heap e ys)(fa:(d.all λx=>bl 2 x.2)=true)(fb:(e.all λx=>bl 2 x.2)=true){c:Nat}(hu:A.units+8<cLine)
  (h:Q (su d e) s):wpAny (model X.prog X.w) A (Builtin.Dict.samePairs nm a b) Q E s:=by
 refine Er da λoa es ep hoa _ hda hpa ia na=>?_
 refine Er db λob es' Zo hob _ hdb RB ib nb=>?_
 have hla:d.length=es.size:=by rw[ta.length,←gV,hpa,List.length_map]
 have oJ:e.length=es'.size:=by rw[tb.length,←gV,RB,List.length_map]
 clear ia db da
 rw[E6,hla,oJ] at h
 unfold Builtin.Dict.samePairs Builtin.Dict.showsAll
 clear oJ
 refine ay (aB (show¬(a==sysModules)=true by rw[ha];exact Bool.false_ne_true)) (ay (aB (show¬(b==sysModules)=true by rw[hb];exact Bool.false_ne_true)) (?_))
 refine au (aT (au (aT ?_)))
 refine au (wpAny_dictEntries hoa hda ?_)
 refine au (wpAny_dictEntries hob hdb ?_)
 by_cases l9:es.size=es'.size
 case neg=>
  refine ay (aC (by simpa using l9)) (?_)
  rw[(by simpa using l9:(es.size==es'.size)=false),Bool.false_and] at h
  exact au (wpAny_rule (aT h))
 case pos=>
  have h':Q (d.all (g8 e)) s:=by simpa[l9] using h
  refine ay (aB (by rw[l9];simp)) (?_)
  refine au (wpAny_dictEpoch hoa hda ?_)
  refine au ?_
  rw[Std.Legacy.Range.forIn_eq_forIn_range']
  refine N9 (λdO=>∃i,dO=List.range' i (es.size-i)∧i≤es.size∧d.all (g8 e)=(d.drop i).all (g8 e)) (λx dO hI R hY hD=>?_) (λhI=>?_) ⟨0,by simp,Nat.zero_le _,rfl⟩
  ·replace hD:=λz:d.all (g8 e)=false=>hD (some false,()) (aT (z▸h'))
   clear h' h
   refine gC hI λi hr hi j9=>?_
   clear hI
   have lU:i<es.size:=by
    rcases Nat.lt_or_ge i es.size with h|h
    ·exact h
    ·rw[Nat.sub_eq_zero_of_le h] at hr;simp at hr
   obtain⟨rfl,hrest⟩:x=i∧dO=List.range' (i+1) (es.size-(i+1)):=by
    have e:=N7 (n:=es.size) (i:=i) (by assumption)
    rw[e,List.range'_succ] at hr
    injection hr with h1 h2
    exact⟨h1,h2⟩
   refine au (wpAny_dictEntries hoa hda ?_)
   have hlt':x<d.length:=by rw[hla];exact lU
   refine dY λG hG=>?_
   refine jo (⟨_,_,rfl⟩:∃k v,d[x]=(k,v)) λk v hkv=>?_
   have vp:d.drop x=(k,v)::d.drop (x+1):=by rw[←hkv];exact List.drop_eq_getElem_cons hlt'
   refine jN (ta.at (i:=x) (k:=k) (v:=v) (by rw[iw hlt',hkv])) λj ka xv hx CP hk hv=>?_
   subst CP
   refine hG ?_
   refine ay ((by rw[←jP,hpa,List.getElem?_map,hx];rfl:es[x]? =some (wN (j,ka,xv)))) ?_
   have fv:bl 2 v=true:=by
    have:=iP fa (pn j,v) (by rw[←hkv];exact List.getElem_mem hlt')
    exact this
   rw[vp,List.all_cons] at j9
   refine dY λG hG=>?_
   refine aA (pO hk) λ_ er ik=>?_
   cases er
   refine hG ?_
   refine au (N8 λQB UB=>?_)
   have hA:∀c,d.all (g8 e)=(c&&(d.drop (x+1)).all (g8 e))→QB c s:=λc hc=>UB _ _ (by
    cases c with
    |false=>
     show wpAny _ _ (if(!false)=true then _ else _) _ _ _
     refine ay (aC (by decide)) (?_)
     exact aT (hD hc)
    |true=>
     show wpAny _ _ (if(!true)=true then _ else _) _ _ _
     refine au (wpAny_dictEpoch hoa hda ?_)
     refine ay (aB (by simp)) (?_)
     exact aT (hY ⟨x+1,hrest,lU,hc⟩))
   replace hA:=hA _ j9
   clear UB hD hY j9 hrest
   refine cF (au ?_)
   have F:=kL.find (j:=j) tb
   refine wpAny_dictFind_heap (knd:=jc X.prog X.w) (k:=j) (a:=ka) (xs:=ys) (by show A.units+5<cLine;exact ltN [_,_] 1 (.add vA (.num 5)) vB [.s 1 (.add vA (.num 8)) vB] aI hu) ik hob hdb RB ib nb (λhno=>?_) (λm p hm=>?_)
   ·have hn:atKey ys j=none:=atKey_none_of_get hno
    have hf:g8 e (pn j,v)=false:=by
     unfold g8
     cases hd:aQ e (pn j) with
     |none=>rfl
     |some u=>
      refine oA (F.1 u hd) λa' x' ha' _=>?_
      exact sN ha' hn
    exact aT (hf▸hA)
   ·have hn:atKey ys j=some p:=atKey_of_get nb hm
    obtain⟨pa,pv⟩:=p
    have hem:es'[m]? =some (wN (j,pa,pv)):=by rw[←jP,RB,List.getElem?_map,hm];rfl
    refine au (wpAny_dictEntries hob hdb ?_)
    refine ay hem (?_)
    cases hd:aQ e (pn j) with
    |none=>exact sN hn (F.2 hd)
    |some u=>
     refine oA (F.1 u hd) λa' x' ha' Lb=>?_
     refine sE ha' hn ?_
     have hf:g8 e (pn j,v)=decide (v=u):=by unfold g8;rw[hd]
     have fu:bl 2 u=true:=by
      refine aA (tF hd) λy ym ye=>?_
      rw[←ye];exact iP fb y ym
     refine cF (CL B hv Lb fv fu (aD rfl) hu X.prog X.w _ _ (hf▸hA))
  ·refine gC hI λi hr hi j9=>?_
   have hin:i=es.size:=by
    rcases Nat.lt_or_ge i es.size with h|h
    ·have e:=N7 (n:=es.size) (i:=i) (by assumption)
     rw[e,List.range'_succ] at hr;exact nomatch hr
    ·exact dH hi h
   refine aT ?_
   rw[hin,←hla,List.drop_length] at j9
   rw[j9] at h'
   exact h'
theorem CQ(B:bE X mg mb){A:Around}{μ:Mu}{s:Shared}{a b:Addr}{d e:List (V × V)}{xs ys:BI}{Q:Value→Shared→Prop}{E:Value→Shared→Prop}(ha:(a==sysModules)=false)(hb:(b==sysModules)=false)
  (da:s.heap.DictOfH (jc X.prog X.w) a xs)(db:s.heap.DictOfH (jc X.prog X.w) b ys)(ta:kL X μ s.heap d xs)(tb:kL X μ s.heap e ys)(fa:(d.all λx=>bl 2 x.2)=true)(fb:(e.all λx=>bl 2 x.2)=true){c:Nat}(hR:Room A c)
  (h:Q (.bool (su d e)) s):wpAny (model X.prog X.w) A (compareOp .Eq (.ref a) (.ref b)) Q E s:=by
 have hu:=hR.2.2
 refine wpAny_richCompare_same_room (op:= .Eq) da.typeIs db.typeIs PySem.F.slot_dict_eq (wpAny_call_entry PySem.F.slot_dict_eq da.typeIs PySem.F.entry_dict_eq ?_ (PySem.F.args_dict_eq_2 _ _)) (by exact ltN [_,_,_] 1 vA vB [.l 1 (.add (.add vA (.mulL 20 vC)) (.num 40)) vB] aI hu)
 refine au ?_
 refine au (wpAny_notOrdered_dict da.typeIs ?_)
 refine aT ?_
 refine au (wpAny_isInstance (T:="dict") db.typeIs PySem.F.sub_dict_dict ?_)
 refine au (aT (au (aT ?_)))
 refine au (wY B ha hb da db ta tb fa fb (c:=c) (by show A.units+1+8<cLine;exact ltN [_,_,_] 1 (.add (.add vA (.num 1)) (.num 8)) vB [.l 1 (.add (.add vA (.mulL 20 vC)) (.num 40)) vB] aI hu) ?_)
 refine aT ⟨_,rfl,?_,?_⟩
 ·exact λx=>nomatch x
 ·simpa using h
theorem wZ(a:Addr):¬bL ([]:Mu) a:=λ⟨_,hp,_⟩=>nomatch hp
theorem bN.E7{μ:Mu}{h:Heap}{k:Nat}(ih:∀v,bl k v=true→∀x,VR X μ h v x→VR X [] h v x)(l:List V):∀ys,l.all (bl k)=true→bN X μ h l ys→bN X [] h l ys:=by
 induction l with
 |nil=>exact λ_ _ g=>g
 |cons v r ihl=>exact λys ha g=>bN.eC g λy q g1 g2=>⟨y,q,rfl,ih v (aL ha) y g1,ihl q (aR ha) g2⟩
theorem VR.HX{μ:Mu}{h:Heap}{k:Nat}{v:V}(hf:bl k v=true):∀x,VR X μ h v x→VR X [] h v x:=
 iU (P:=λ_ v=>∀x,VR X μ h v x→VR X [] h v x) (λ_ _ g=>g) (λ_ _ _ g=>g) (λ_ _ _ g=>g)
  (λk l ih hl x g=>VR.uK g λa az m _ ho hv=>⟨a,az,m,rfl,wZ a,ho,bN.E7 ih l _ hl hv⟩)
  (λk l ih hl x g=>VR.qu g λa az m _ ho hv=>⟨a,az,m,rfl,wZ a,ho,bN.E7 ih l _ hl hv⟩) k v hf
theorem bN.HX{μ:Mu}{h:Heap}{k:Nat}{l:List V}{ys:List Value}(ha:l.all (bl k)=true)(g:bN X μ h l ys):bN X [] h l ys:=bN.E7 (λ_ hf=>VR.HX hf) l ys ha g
theorem iW(B:bE X mg mb){μ:Mu}{σ:aa}{s:Shared}(S:St X μ σ s){p:Addr × Addr}{l:Nat}(hp:μ[l]? =some p):(p.1==sysModules)=false:=
 iQ (S.above p (iy hp)).2.2
theorem vq(B:bE X mg mb){A:Around}{μ:Mu}{σ:aa}{s:Shared}(S:St X μ σ s){a:V}{x y:Value}{l k:Nat}{d:List (V × V)}(hx:VR X μ s.heap a x)(hy:VR X μ s.heap (.loc l) y)(hd:σ[l]? =some (.dict k d))
  (h1:¬(kk a=0∨kk a=3))(h2:k=0∨k=kk a){Q:Value→Shared→Prop}{E:Value→Shared→Prop}:
  (Q (.bool (aQ d a).isSome) {s with toks:=s.toks+1}→wpAny (model X.prog X.w) A (compareOp .In x y) Q E s)∧
  (Q (.bool (!(aQ d a).isSome)) {s with toks:=s.toks+1}→wpAny (model X.prog X.w) A (compareOp .NotIn x y) Q E s):=by
 refine VR.qs hy λp hp=>?_
 have low:=iW B S hp
 refine dF (S.obj l _ p hd hp:OR X μ s.heap p (.dict k d)) λ_ D=>?_
 have sm:∀{K:Type} [DecidableEq K]{rel:V→K→Prop}{j:K}{kvs:List (K × Value)},((∀v,aQ d a=some v→∃x,valueAt kvs j=some x∧VR X μ s.heap v x)∧(aQ d a=none→valueAt kvs j=none))→(valueAt kvs j).isSome=(aQ d a).isSome:=by
  intro K _ rel j kvs F
  cases q:aQ d a with
  |none=>rw[F.2 q];rfl
  |some v=>obtain⟨x,hx,_⟩:=F.1 v q;rw[hx];rfl
 rcases yI a with z|z|z|z
 ·exact absurd (.inl z) h1
 ·refine bK (tC z) λj bP=>?_
  subst bP
  refine aA (D.Ld h2) λkvs D Pr=>?_
  refine VR.gf hx λt=>?_
  have ik:(intKind X.prog X.w).is j (.int j t)=true:=by simp[PySem.intKind,Value.isInt]
  have e:=sm (rel:=sP) (Pr.find (k:= .int j) (j:=j) (jD j))
  exact⟨λh=>wpAny_in_of (knd:=intKind X.prog X.w) ik low D.mapOf (by rw[e];exact h),λh=>wpAny_notIn_of (knd:=intKind X.prog X.w) ik low D.mapOf (by rw[e];exact h)⟩
 ·refine bK (tD z) λj bP=>?_
  subst bP
  refine aA (D.RA h2) λkvs D Pr=>?_
  refine VR.EH hx λhj t=>?_
  have ik:(strKind X.prog X.w).is (X.NM j) (.str (X.NM j) t)=true:=by simp[PySem.strKind,Value.isStrOf]
  have e:=sm (rel:=rK X) (Pr.find (k:= .str j) (j:=X.NM j) (iV B hj))
  exact⟨λh=>wpAny_in_of (knd:=strKind X.prog X.w) ik low D.mapOf (by rw[e];exact h),λh=>wpAny_notIn_of (knd:=strKind X.prog X.w) ik low D.mapOf (by rw[e];exact h)⟩
 ·exact absurd (.inr z) h1
theorem VR.wB{μ:Mu}{h:Heap}{v:V}{x:Value}(g:VR X μ h v x):(x== .none)=wB v:=by
 cases v
 ·exact VR.yl g rfl
 ·exact VR.vc g rfl
 ·exact VR.gf g λ_=>rfl
 ·exact VR.EH g λ_ _=>rfl
 ·exact VR.EK g λ_ _ _=>rfl
 ·exact VR.BH g λ_ _ _ _ _=>rfl
 ·exact VR.uK g λ_ _ _ _ _ _=>rfl
 ·exact VR.qu g λ_ _ _ _ _ _=>rfl
 ·exact VR.HQ g λ_ _ _ _ _ _=>rfl
 ·exact ay (show x=.ref _ from g) rfl
 ·exact ay g.1 rfl
 ·exact VR.qs g λ_ _=>rfl
theorem yK{v:V}(h:wB v=true):v=.none:=by cases v<;>first|exact nB h|rfl
theorem E8{α:Type}{r:α}{G:Prop}{v:V}{f:Bool→Option α}(h:(match v with| .bool x=>f x|_=>none)=some r)(k:∀x,v=.bool x→f x=some r→G):G:=by cases v<;>first|exact k _ rfl h|exact fY h
theorem Li{α:Type}{r:α}{G:Prop}{v:V}{f:Nat→Option α}{g:V→Option α}(h:(match v with| .loc x=>f x|a=>g a)=some r)(k:∀x,v=.loc x→f x=some r→G)(k2:g v=some r→G):G:=by cases v<;>first|exact k _ rfl h|exact k2 h
theorem HY{a b:V}{σ:aa}{r:Bool}{G:Prop}(h:cX .ne a b σ=some r)(k1:∀x y,a=.bool x→b=.bool y→(!decide (x=y))=r→G)(k2:(bl 6 a&&bl 6 b)=true→(!decide (a=b))=r→G):G:=by
 cases b<;>first|exact k2 (uF h).1 (uF h).2|exact E8 h λx e h=>k1 x _ e rfl (aX h)
theorem HZ{a b:V}{σ:aa}{r:Bool}{G:Prop}(h:cX .eq a b σ=some r)(k1:∀x y,a=.bool x→b=.bool y→decide (x=y)=r→G)
  (k2:∀x y k d k' e,a=.loc x→b=.loc y→σ[x]? =some (.dict k d)→σ[y]? =some (.dict k' e)→((k=0∨k=3)∧(k'=0∨k'=3)∧(d.all λx=>bl 2 x.2)∧(e.all λx=>bl 2 x.2))→su d e=r→G)
  (k3:∀x y vs,a=.lst x→b=.loc y→σ[y]? =some (.list vs)→(x.all (bl 5)&&vs.all (bl 5))=true→decide (x=vs)=r→G)(k4:(bl 6 a&&bl 6 b)=true→decide (a=b)=r→G):G:=by
 cases b<;>first|exact k4 (uF h).1 (uF h).2|exact E8 h λx e h=>k1 x _ e rfl (aX h)|skip
 exact Li h (λx e h=>oB h λk d hx h=>oB h λk' d' hy h=>k2 _ _ _ _ _ _ e rfl hx hy (uF h).1 (uF h).2) λh=>Eu h λx e h=>Ew h λvs hy h=>k3 _ _ _ e rfl hy (uF h).1 (uF h).2
theorem UC{a b:Bool}:(a==b)=decide (a=b):=by cases a<;>cases b<;>rfl
theorem BR{a b:V}{σ:aa}{r:Bool}{G:Prop}(h:cX.Q2 σ a b=some r)(k1:∀i l,a=.int i→b=.tup l→l.all HE=true→decide (V.int i∈l)=r→G)(k2:∀i l,a=.int i→b=.lst l→l.all HE=true→decide (V.int i∈l)=r→G)
  (k3:∀y k d,b=.loc y→σ[y]? =some (.dict k d)→¬(kk a=0∨kk a=3)→(k=0∨k=kk a)→(aQ d a).isSome=r→G):G:=by
 cases b<;>first|exact fY h|skip
 ·exact kE h λi e h=>k1 _ _ e rfl (uF h).1 (uF h).2
 ·exact kE h λi e h=>k2 _ _ e rfl (uF h).1 (uF h).2
 ·exact oB h λk d hy h=>CH h λz h=>fJ h λz2 h=>k3 _ _ _ rfl hy z z2 (aX h)
theorem qz(B:bE X mg mb){A:Around}{c:Nat}(hR:Room A c){μ:Mu}{σ:aa}{s:Shared}(S:St X μ σ s){op:Cm}{o:CmpOp}(ho:z9 op o=true){v u:V}{r:Bool}{x y:Value}(hx:VR X μ s.heap v x)(hy:VR X μ s.heap u y)(he:cX op v u σ=some r)
  {Q:Value→Shared→Prop}{E:Value→Shared→Prop}(hQ:lE X μ s (.bool r) σ Q):wpAny (model X.prog X.w) A (compareOp o x y) Q E s:=by
 have q:∀{b},b=r→Q (.bool b) s:=λ{b} e=>e▸hQ _ _ _ .refl S rfl
 have qt:∀{b} t,b=r→Q (.bool b) {s with toks:=t}:=λ{b} t e=>e▸hQ _ _ _ .refl (S.tok _) rfl
 clear hQ
 cases dw ho
 clear ho
 cases op
 · -- ==
  refine HZ he (λa b ha hb hr=>?_) (λl m k d k' e ha hb h1 h2 z hr=>?_) (λl m vs ha hb h1 z hr=>?_) λz hr=>J7 B hx hy (aL z) (aR z) (aD rfl) hR (q hr)
  ·subst ha hb
   exact VR.vc hx (VR.vc hy (SeqAt.RcAt.bool_bool a b X.prog X.w E Q (q (UC.trans hr))))
  ·subst ha hb
   refine VR.qs hx λp hp=>VR.qs hy λp' rL=>gC (fy.N6 (S.obj l _ p h1 hp).2 z.1) λxs DX _ TX=>gC (fy.N6 (S.obj m _ p' h2 rL).2 z.2.1) λys DY _ TY=>?_
   exact CQ B (iW B S hp) (iW B S rL) DX DY TX TY z.2.2.1 z.2.2.2 hR (q hr)
  ·subst ha hb
   refine VR.qu hx λa az k _ g hl=>VR.qs hy λp hp=>oA (S.obj m _ p h1 hp).2 λitems' k' g' hl'=>?_
   exact J7 B (v:= .lst l) (u:= .lst vs) (μ:=[]) ⟨a,az,k,rfl,wZ a,g,bN.HX (aL z) hl⟩ ⟨p.1,items',k',rfl,wZ _,g',bN.HX (aR z) hl'⟩ (k:=6) (aL z) (aR z) (aD rfl) hR (q ((rY (λ_ _=>V.lst.inj) l vs).symm.trans hr))
 · -- !=
  refine HY he (λa b ha hb hr=>?_) λz hr=>N4 B hx hy (aL z) (aR z) (aD rfl) hR (q hr)
  subst ha hb
  exact VR.vc hx (VR.vc hy (SeqAt.RcNeAt.bool_bool a b X.prog X.w E Q (q ((aj (!·) UC).trans hr))))
 ·exact HU (f:=λx y=>decide (x<y)) he λa b ha hb hr=>by subst ha hb;exact VR.gf hx λt=>VR.gf hy λt'=>PySem.P.lt_int (q hr)
 ·exact HU (f:=λx y=>decide (x≤y)) he λa b ha hb hr=>by subst ha hb;exact VR.gf hx λt=>VR.gf hy λt'=>PySem.P.le_int (q hr)
 ·exact HU (f:=λx y=>decide (y<x)) he λa b ha hb hr=>by subst ha hb;exact VR.gf hx λt=>VR.gf hy λt'=>PySem.P.gt_int (q hr)
 ·exact HU (f:=λx y=>decide (y≤x)) he λa b ha hb hr=>by subst ha hb;exact VR.gf hx λt=>VR.gf hy λt'=>PySem.P.ge_int (q hr)
 · --is
  obtain rfl:=yK (uF he).1
  exact VR.yl hy (is_none (q (hx.wB.trans (aX he))))
 ·obtain rfl:=yK (uF he).1
  exact VR.yl hy (isNot_none (q ((aj (!·) hx.wB).trans (aX he))))
 · --in
  refine BR he (λi l ha hb z hr=>?_) (λi l ha hb z hr=>?_) λl k d hb h1 z z2 hr=>(vq B S hx (hb▸hy) h1 z z2).1 (qt _ hr)
  ·subst ha hb
   refine VR.gf hx λt=>VR.uK hy λa az k _ g hl=>dF (mQ i hl z) λm1 m2=>?_
   exact SeqAt.in_tupleAt (gf i) ⟨_,g,rfl,k,rfl⟩ (λy hy=>jo (m2 y (Array.mem_toList_iff.mpr hy)) λj u e=>ay e (SeqAt.EqAt.int_int j u i t)) (q (Array.any_toList.symm.trans (m1.trans hr)))
  ·subst ha hb
   refine VR.gf hx λt=>VR.qu hy λa az k _ g hl=>dF (mQ i hl z) λm1 m2=>?_
   exact SeqAt.in_listAt (gf i) ⟨_,g,rfl,k,rfl⟩ (λy hy=>jo (m2 y (Array.mem_toList_iff.mpr hy)) λj u e=>ay e (SeqAt.EqAt.int_int j u i t)) (q (Array.any_toList.symm.trans (m1.trans hr)))
 · --not in
  refine aA (map_some he) λr' h1 cW=>BR h1 (λi l ha hb z hr=>?_) (λi l ha hb z hr=>?_) λl k d hb h2 z z2 hr=>(vq B S hx (hb▸hy) h2 z z2).2 (qt _ ((aj (!·) hr).trans cW))
  ·subst ha hb
   refine VR.gf hx λt=>VR.uK hy λa az k _ g hl=>dF (mQ i hl z) λm1 m2=>?_
   exact SeqAt.notIn_tupleAt (gf i) ⟨_,g,rfl,k,rfl⟩ (λy hy=>jo (m2 y (Array.mem_toList_iff.mpr hy)) λj u e=>ay e (SeqAt.EqAt.int_int j u i t)) (q ((aj (!·) (Array.any_toList.symm.trans (m1.trans hr))).trans cW))
  ·subst ha hb
   refine VR.gf hx λt=>VR.qu hy λa az k _ g hl=>dF (mQ i hl z) λm1 m2=>?_
   exact SeqAt.notIn_listAt (gf i) ⟨_,g,rfl,k,rfl⟩ (λy hy=>jo (m2 y (Array.mem_toList_iff.mpr hy)) λj u e=>ay e (SeqAt.EqAt.int_int j u i t)) (q ((aj (!·) (Array.any_toList.symm.trans (m1.trans hr))).trans cW))
noncomputable def nR(X:Ctx)(μ:Mu)(s:Shared)(b:Bool)(τ:aa)(Q:Bool→Shared→Prop):Prop:=∀bA s',cU μ bA s.heap s'.heap→St X bA τ s'→Q b s'
section
variable {X:Ctx} {μ:Mu} {s:Shared} {v v':V} {τ mq:aa} {Q:Value→Shared→Prop}
theorem nR.of{b b':Bool}{Q:Bool→Shared→Prop}(hQ:nR X μ s b τ Q)(e:some b'=some b):nR X μ s b' τ Q:=aX e▸hQ
theorem nR.oq{b:Bool}{Q:Bool→Shared→Prop}(hQ:nR X μ s b τ Q)(e:some (v',mq)=some (v,τ)):nR X μ s b mq Q:=ay (P:=λt:V × aa=>nR X μ s b t.2 Q) (aX e) hQ
theorem nR.ov{b b':Bool}{Q:Bool→Shared→Prop}(hQ:nR X μ s b τ Q)(e:b'=b):nR X μ s b' τ Q:=e▸hQ
end
noncomputable def ST(X:Ctx)(n:Nat)(xs:List Nat)(m:ME):Prop:=∀(A:Around)(env:PySem.Env) ls ρ σ v τ b μ s e,Room A n→aJ ⟨X.NM,xs⟩ env.scope ls m e=true→gP X env ls ρ μ s.heap→St X μ σ s→
 aH (af P0 n) ρ m σ=some (v,τ)→dB v=some b→∀Q E,nR X μ s b τ Q→wpAny (model X.prog X.w) A (isTrue e env (eval e env)) Q E s
noncomputable def special:Expr→Bool
 | .UnaryOp .Not _ _| .BoolOp .. | .IfExp .. | .Compare .. =>true
 |_=>false
set_option tactic.hygienic true in
theorem uO {e : Expr} {env : PySem.Env} {whole : Sem Value} (h : special e = false) : isTrue e env whole = (do let v ← whole; standAt e.pos; holding [v] (truthy v)) := by
  cases e <;> first | rfl | exact nB h.symm | skip
  rename_i op x pos
  cases op <;> first | rfl | exact nB h.symm
theorem gQ{m:ME}(h:SE X n xs m)(hs:∀sc ls e,aJ ⟨X.NM,xs⟩ sc ls m e=true→special e=false):ST X n xs m:=by
 intro A env ls ρ σ v τ b μ s e hR hc F S he ht Q E hQ
 refine wpAny_isTrue_value (h A env ls ρ σ v τ μ s e hR hc F S he _ _ λao x s₁ E₁ S₁ aU=>?_) (uO (hs _ _ _ hc))
 exact pP S₁ aU ht (hQ ao s₁ E₁ S₁)
theorem Lj{a:ME}(ha:SE X n xs a):SE X n xs (.not a):=by
 intro A env ls ρ σ v τ μ s e hR hc F S he Q E hQ
 refine bG (f:=λv _=>dB v) (g:=λb=>V.bool (!b)) he λv1 b h1 h2 e2=>?_
 refine sW hc λ_ _ hc=>?_
 refine wpAny_UnaryOp (ha A env ls ρ σ _ _ μ s _ hR hc F S h1 _ _ λao x s₁ E₁ S₁ aU=>?_)
 exact not_value (pP S₁ aU h2 ((hQ.ov e2) ao _ s₁ E₁ S₁ (by simp only[VR])))
theorem Ll{a:ME}(ha:ST X n xs a):ST X n xs (.not a):=by
 intro A env ls ρ σ v τ b μ s e hR hc F S he ht Q E hQ
 refine bG (f:=λv _=>dB v) (g:=λb=>V.bool (!b)) he λv1 b' h1 h2 e2=>?_
 subst e2
 simp only[dB,Option.some.injEq] at ht
 refine sW hc λ_ _ hc=>?_
 exact wpAny_isTrue_Not (ha A env ls ρ σ _ _ b' μ s _ hR hc F S h1 h2 _ _ λao s₁ E₁ S₁=>(hQ.ov ht) ao s₁ E₁ S₁)
theorem jY{sc:Scope}{ls:List (Option Nat)}{m:ME}{e:Expr}{W:qU}(o:CmpOp)(h:aJ W sc ls m e=true)(hn:m≠ .never):behindInMarks o e=false:=by
 cases m
 ·exact qw h λ_ _ _ _=>rfl
 ·exact qx h λ_ _ _ _=>rfl
 ·exact jW h λ_ _ _ _ _ _=>rfl
 ·exact pG h λ_ _ _ _ _ _ _=>rfl
 ·exact pH h λ_ _ _ _ _=>rfl
 ·exact mK h λ_ _ _ _ _ _ _ _=>rfl
 ·exact kM h λ_ _ _ _ _ _=>rfl
 ·exact kN h λ_ _ _ _ _ _=>rfl
 ·exact jX h λ_ _ _ _ _ _=>rfl
 ·exact kO h λ_ _ _ _ _ _ _ _=>rfl
 ·exact pI h λ_ _ _ _ _ _ _ _ _ _=>rfl
 ·exact kQ h λ_ _ _ _ _ _ _ _ _ _=>rfl
 ·exact qy h λ_ _ _ _ _ _ _=>rfl
 ·exact sV h λ_ _ _=>rfl
 ·exact sW h λ_ _ _=>rfl
 ·exact sX h λ_ _ _=>rfl
 ·exact yq h λ_ _ _=>rfl
 ·exact sY h λ_ _ _ _ _ _ _=>rfl
 ·exact pJ h λ_ _ _ _ _ _ _ _ _ _ _ _=>rfl
 ·exact sZ h λ_ _ _ _ _ _ _=>rfl
 ·exact s7 h λ_ _ _ _ _=>rfl
 ·exact s8 h λ_ _ _ _=>rfl
 ·exact pK h λ_ _ _ _=>rfl
 ·exact pL h λ_ _ _ _ _=>rfl
 ·exact mL h λ_ _ _ _ _ _ _ _ _ _ _=>rfl
 ·exact mO h λ_ _ _ _ _ _ _ _ _ _=>rfl
 ·exact absurd rfl hn
theorem cQ{call:Nat→List V→aa→Option (V × aa)}{ρ:Env}{σ:aa}{r:V × aa}{m:ME}(h:aH call ρ m σ=some r):m≠ .never:=by
 rintro rfl;exact fY h
theorem Lm(B:bE X mg mb)(op:Cm){a b:ME}(ha:SE X n xs a)(hb:SE X n xs b):SE X n xs (.cmp a op b):=by
 intro A env ls ρ σ v τ μ s e hR hc F S he Q E hQ
 refine bw he λv1 σ1 h1 he=>?_
 refine bG he λv2 r h2 h3 e3=>?_
 refine sY hc λ_ _ _ _ c1 c2 c3=>?_
 exact wpAny_Compare1 (two ha hb hR c2 c3 F S h1 h2 λbA x y s' E' S' V1 V2=>qz B hR S' c1 V1 V2 h3 λAo z s'' Lg zX Lh=>(hQ.ov e3) Ao z s'' (E'.trans Lg) zX Lh) (jY _ c3 (cQ h2))
theorem Ln(B:bE X mg mb)(op:Cm){a b:ME}(ha:SE X n xs a)(hb:SE X n xs b):ST X n xs (.cmp a op b):=by
 intro A env ls ρ σ v τ b' μ s e hR hc F S he ht Q E hQ
 refine bw he λv1 σ1 h1 he=>?_
 refine bG he λv2 r h2 h3 e3=>?_
 subst e3
 simp only[dB,Option.some.injEq] at ht
 refine sY hc λ_ _ _ _ c1 c2 c3=>?_
 refine wpAny_isTrue_Compare1 (two ha hb hR c2 c3 F S h1 h2 λbA x y s' E' S' V1 V2=>qz B hR S' c1 V1 V2 h3 λAo z s'' Lg zX Lh=>?_) (jY _ c3 (cQ h2))
 refine VR.vc Lh ?_
 exact wpAny_truthy_bool ((hQ.ov ht) Ao s'' (E'.trans Lg) zX)
theorem mR{o1 o2:CmpOp}{e1 e2:Expr}{t1 t2:Sem Value}(h:behindInMarks o2 e2=false):markedEach [o1,o2] [e1,e2] [t1,t2]=[t1,t2]:=by
 simp only[markedEach,markedBehindIn_of_false h]
theorem H6(B:bE X mg mb)(o1 o2:Cm){a b c:ME}(ha:SE X n xs a)(hb:SE X n xs b)(hcc:SE X n xs c):SE X n xs (.sj a o1 b o2 c):=by
 intro A env ls ρ σ v τ μ s e hR hc F S he Q E hQ
 refine dY λG hG=>?_
 refine bw he λv1 σ1 h1 he=>?_
 refine bw he λv2 σ2 h2 he=>?_
 refine aA (bind_some he) λr h3 he=>?_
 refine hG ?_
 refine pJ hc λx p1 p2 y z pos c0 c1 c2 c3 c4 c5=>?_
 refine(λh=>h) ?_
 refine au ?_
 refine ha A env ls ρ σ v1 σ1 μ s _ hR c3 F S h1 _ _ λao x1 s₁ E₁ S₁ aU=>?_
 have tail:∀(t:Sem Value),(wpAny (model X.prog X.w) A (eval y env) (λrv s₂=>wpAny (model X.prog X.w) A (compareOp p1 x1 rv) (λcv s₃=>wpAny (model X.prog X.w) A (truthy cv) (λbb s₄=>if bb=true then wpAny (model X.prog X.w) A (eval z env) (λzv s₅=>wpAny (model X.prog X.w) A (compareOp p2 rv zv) Q E s₅) E s₄ else Q cv s₄) E s₃) E s₂) E s₁)→
   behindInMarks p2 z=false→wpAny (model X.prog X.w) A (compareChain pos x1 [p1,p2] (markedEach [p1,p2] [y,z] [eval y env,eval z env])) Q E s₁:=by
  intro _ h hm
  refine ay (mR hm) (?_)
  refine au (cF (fq h (λrv s₂ h₂=>?_) λ_ _ q=>q))
  refine au (wpAny_standAt (au (cF (fq h₂ (λcv s₃ h₃=>?_) λ_ _ q=>q))))
  refine au (wpAny_release (au (cF (fq h₃ (λbb s₄ h₄=>?_) λ_ _ q=>q))))
  cases bb with
  |false=>exact aT h₄
  |true=>
   exact au (cF (fq h₄ (λzv s₅ h₅=>au (wpAny_standAt (wpAny_operateT h₅))) λ_ _ q=>q))
 refine tail (pure .none) ?_ (jY _ c5 (by rintro rfl;cases c0))
 refine hb A env ls ρ σ1 v2 σ2 ao s₁ _ hR c4 (F.mono E₁) S₁ h2 _ _ λbB y1 s₂ E₂ S₂ cZ=>?_
 refine qz B hR S₂ c1 (aU.mono E₂) cZ h3 λdP c₃ s₃ E₃ cu kg=>?_
 simp only[VR] at kg
 subst kg
 refine wpAny_truthy_bool ?_
 cases r with
 |false=>
  simp only[Bool.false_eq_true,if_false,Option.some.injEq,Prod.mk.injEq] at he
  refine dY λG hG=>?_
  obtain⟨rfl,rfl⟩:=he
  refine hG ?_
  exact hQ dP _ s₃ ((E₁.trans E₂).trans E₃) cu (by simp only[VR])
 |true=>
  dsimp only[if_true] at he⊢
  refine bG he λv3 r' h4 h5 e5=>?_
  refine hcc A env ls ρ σ2 v3 τ dP s₃ _ hR c5 (((F.mono E₁).mono E₂).mono E₃) cu h4 _ _ λiX z1 s₄ gk iA kU=>?_
  exact qz B hR iA c2 ((cZ.mono E₃).mono gk) kU h5 λvt Oa s₅ xd xe CR=>(hQ.ov e5) vt Oa s₅ ((((E₁.trans E₂).trans E₃).trans gk).trans xd) xe CR
theorem d9{W:qU}{sc:Scope}{ls:List (Option Nat)}{m:ME}{r:List ME}{es:List Expr}(h:jn W sc ls (m::r) es=true):∃e q,es=e::q∧(match e with| .Starred .. =>false|_=>true)=true∧aJ W sc ls m e=true∧jn W sc ls r q=true:=by
 cases es with
 |nil=>exact nB h
 |cons e q=>exact⟨_,_,rfl,lF h,gz h,aR h⟩
theorem jE{W:qU}{sc:Scope}{ls:List (Option Nat)}{es:List Expr}(h:jn W sc ls [] es=true):es=[]:=by
 cases es with
 |nil=>rfl
 |cons e q=>exact nB h
noncomputable def SA(X:Ctx)(n:Nat)(xs:List Nat)(pos:Pos)(ms:List ME):Prop:=∀(A:Around)(env:PySem.Env) ls ρ σ v τ μ s es,Room A n→jn ⟨X.NM,xs⟩ env.scope ls ms es=true→gP X env ls ρ μ s.heap→St X μ σ s→
  u6 (af P0 n) ρ ms σ=some (v,τ)→∀Q E,lE X μ s v τ Q→wpAny (model X.prog X.w) A (boolOp pos .And (evalEach es env)) Q E s
noncomputable def SO(X:Ctx)(n:Nat)(xs:List Nat)(pos:Pos)(ms:List ME):Prop:=∀(A:Around)(env:PySem.Env) ls ρ σ v τ μ s es,Room A n→jn ⟨X.NM,xs⟩ env.scope ls ms es=true→gP X env ls ρ μ s.heap→St X μ σ s→
  u9 (af P0 n) ρ ms σ=some (v,τ)→∀Q E,lE X μ s v τ Q→wpAny (model X.prog X.w) A (boolOp pos .Or (evalEach es env)) Q E s
noncomputable def TA(X:Ctx)(n:Nat)(xs:List Nat)(ms:List ME):Prop:=∀(A:Around)(env:PySem.Env) ls ρ σ v τ b μ s es,Room A n→jn ⟨X.NM,xs⟩ env.scope ls ms es=true→gP X env ls ρ μ s.heap→St X μ σ s→
  u6 (af P0 n) ρ ms σ=some (v,τ)→dB v=some b→∀Q E,nR X μ s b τ Q→wpAny (model X.prog X.w) A (allTrue .And es env) Q E s
noncomputable def TO(X:Ctx)(n:Nat)(xs:List Nat)(ms:List ME):Prop:=∀(A:Around)(env:PySem.Env) ls ρ σ v τ b μ s es,Room A n→jn ⟨X.NM,xs⟩ env.scope ls ms es=true→gP X env ls ρ μ s.heap→St X μ σ s→
  u9 (af P0 n) ρ ms σ=some (v,τ)→dB v=some b→∀Q E,nR X μ s b τ Q→wpAny (model X.prog X.w) A (allTrue .Or es env) Q E s
theorem lE.more{μ ao:Mu}{s s₁:Shared}{v:V}{τ:aa}{Q:Value→Shared→Prop}(hQ:lE X μ s v τ Q)(E₁:cU μ ao s.heap s₁.heap):lE X ao s₁ v τ Q:=λbB x₂ s₂ E₂ S₂ cZ=>hQ bB x₂ s₂ (E₁.trans E₂) S₂ cZ
theorem nR.more{μ ao:Mu}{s s₁:Shared}{b:Bool}{τ:aa}{Q:Bool→Shared→Prop}(hQ:nR X μ s b τ Q)(E₁:cU μ ao s.heap s₁.heap):nR X ao s₁ b τ Q:=λbB s₂ E₂ S₂=>hQ bB s₂ (E₁.trans E₂) S₂
theorem CS{pos:Pos}(ms:List ME)(hm:∀m∈ms,SE X n xs m):SA X n xs pos ms:=by
 induction ms with
 |nil=>exact λA env ls ρ σ v τ μ s es hR hc F S he=>fY he
 |cons m r ih=>
  intro A env ls ρ σ v τ μ s es hR hc F S he Q E hQ
  refine nP (d9 hc) λe q cW _ c1 c2=>?_
  subst cW
  cases r with
  |nil=>
   cases jE c2
   exact hm m (.head _) A env ls ρ σ v τ μ s e hR c1 F S he Q E hQ
  |cons m' r=>
   refine nP (d9 c2) λe' q' cW _ _ _=>?_
   subst cW
   refine bw he λv1 σ1 h1 he=>aA (bind_some he) λb h2 he=>?_
   refine(?_:wpAny _ _ (do
    let v ←eval e env
    standAt pos
    let t ←holding [v] (truthy v)
    match BoolOp.And,t with
    | .And,false| .Or,true=>pure v
    |_,_=>boolOp pos .And (evalEach (e'::q') env)) Q E s)
   refine au (hm m (.head _) A env ls ρ σ v1 σ1 μ s e hR c1 F S h1 _ _ λao x s₁ E₁ S₁ aU=>?_)
   refine au (wpAny_standAt (au (cF (pP S₁ aU h2 ?_))))
   cases b with
   |false=>exact aT ((hQ.of he) ao x s₁ E₁ S₁ aU)
   |true=>exact ih (λk hk=>hm k (.tail _ hk)) A env ls ρ σ1 v τ ao s₁ (e'::q') hR c2 (F.mono E₁) S₁ he Q E (hQ.more E₁)
theorem Fb{pos:Pos}(ms:List ME)(hm:∀m∈ms,SE X n xs m):SO X n xs pos ms:=by
 induction ms with
 |nil=>exact λA env ls ρ σ v τ μ s es hR hc F S he=>fY he
 |cons m r ih=>
  intro A env ls ρ σ v τ μ s es hR hc F S he Q E hQ
  refine nP (d9 hc) λe q cW _ c1 c2=>?_
  subst cW
  cases r with
  |nil=>
   cases jE c2
   exact hm m (.head _) A env ls ρ σ v τ μ s e hR c1 F S he Q E hQ
  |cons m' r=>
   refine nP (d9 c2) λe' q' cW _ _ _=>?_
   subst cW
   refine bw he λv1 σ1 h1 he=>aA (bind_some he) λb h2 he=>?_
   refine(?_:wpAny _ _ (do
    let v ←eval e env
    standAt pos
    let t ←holding [v] (truthy v)
    match BoolOp.Or,t with
    | .And,false| .Or,true=>pure v
    |_,_=>boolOp pos .Or (evalEach (e'::q') env)) Q E s)
   refine au (hm m (.head _) A env ls ρ σ v1 σ1 μ s e hR c1 F S h1 _ _ λao x s₁ E₁ S₁ aU=>?_)
   refine au (wpAny_standAt (au (cF (pP S₁ aU h2 ?_))))
   cases b with
   |true=>exact aT ((hQ.of he) ao x s₁ E₁ S₁ aU)
   |false=>exact ih (λk hk=>hm k (.tail _ hk)) A env ls ρ σ1 v τ ao s₁ (e'::q') hR c2 (F.mono E₁) S₁ he Q E (hQ.more E₁)
theorem Aq(ms:List ME)(hm:∀m∈ms,ST X n xs m):TA X n xs ms:=by
 induction ms with
 |nil=>exact λA env ls ρ σ v τ b μ s es hR hc F S he=>fY he
 |cons m r ih=>
  intro A env ls ρ σ v τ b μ s es hR hc F S he ht Q E hQ
  refine nP (d9 hc) λe q cW _ c1 c2=>?_
  subst cW
  cases r with
  |nil=>
   cases jE c2
   refine wpAny_allTrue_And_cons (hm m (.head _) A env ls ρ σ v τ b μ s e hR c1 F S he ht _ _ λao s₁ E₁ S₁=>?_)
   cases b with
   |false=>exact hQ ao s₁ E₁ S₁
   |true=>exact wpAny_allTrue_And_nil (hQ ao s₁ E₁ S₁)
  |cons m' r=>
   refine bw he λv1 σ1 h1 he=>aA (bind_some he) λb1 h2 he=>?_
   refine wpAny_allTrue_And_cons (hm m (.head _) A env ls ρ σ v1 σ1 b1 μ s e hR c1 F S h1 h2 _ _ λao s₁ E₁ S₁=>?_)
   cases b1 with
   |false=>exact((hQ.of (h2.symm.trans ((aj dB (Prod.mk.inj (aX he)).1).trans ht))).oq he) ao s₁ E₁ S₁
   |true=>exact ih (λk hk=>hm k (.tail _ hk)) A env ls ρ σ1 v τ b ao s₁ q hR c2 (F.mono E₁) S₁ he ht Q E (hQ.more E₁)
theorem CT(ms:List ME)(hm:∀m∈ms,ST X n xs m):TO X n xs ms:=by
 induction ms with
 |nil=>exact λA env ls ρ σ v τ b μ s es hR hc F S he=>fY he
 |cons m r ih=>
  intro A env ls ρ σ v τ b μ s es hR hc F S he ht Q E hQ
  refine nP (d9 hc) λe q cW _ c1 c2=>?_
  subst cW
  cases r with
  |nil=>
   cases jE c2
   refine wpAny_allTrue_Or_cons (hm m (.head _) A env ls ρ σ v τ b μ s e hR c1 F S he ht _ _ λao s₁ E₁ S₁=>?_)
   cases b with
   |true=>exact hQ ao s₁ E₁ S₁
   |false=>exact wpAny_allTrue_Or_nil (hQ ao s₁ E₁ S₁)
  |cons m' r=>
   refine bw he λv1 σ1 h1 he=>aA (bind_some he) λb1 h2 he=>?_
   refine wpAny_allTrue_Or_cons (hm m (.head _) A env ls ρ σ v1 σ1 b1 μ s e hR c1 F S h1 h2 _ _ λao s₁ E₁ S₁=>?_)
   cases b1 with
   |true=>exact((hQ.of (h2.symm.trans ((aj dB (Prod.mk.inj (aX he)).1).trans ht))).oq he) ao s₁ E₁ S₁
   |false=>exact ih (λk hk=>hm k (.tail _ hk)) A env ls ρ σ1 v τ b ao s₁ q hR c2 (F.mono E₁) S₁ he ht Q E (hQ.more E₁)
theorem Lo{ms:List ME}(h:∀m∈ms,SE X n xs m):SE X n xs (.and ms):=by
 intro A env ls ρ σ v τ μ s e hR hc F S he Q E hQ
 refine sX hc λ_ _ hc=>?_
 exact CS ms h A env ls ρ σ v τ μ s _ hR hc F S he Q E hQ
theorem Ob{ms:List ME}(h:∀m∈ms,SE X n xs m):SE X n xs (.or ms):=by
 intro A env ls ρ σ v τ μ s e hR hc F S he Q E hQ
 refine yq hc λ_ _ hc=>?_
 exact Fb ms h A env ls ρ σ v τ μ s _ hR hc F S he Q E hQ
theorem Lp{ms:List ME}(h:∀m∈ms,ST X n xs m):ST X n xs (.and ms):=by
 intro A env ls ρ σ v τ b μ s e hR hc F S he ht Q E hQ
 refine sX hc λ_ _ hc=>?_
 exact wpAny_isTrue_BoolOp (Aq ms h A env ls ρ σ v τ b μ s _ hR hc F S he ht Q E hQ)
theorem Oc{ms:List ME}(h:∀m∈ms,ST X n xs m):ST X n xs (.or ms):=by
 intro A env ls ρ σ v τ b μ s e hR hc F S he ht Q E hQ
 refine yq hc λ_ _ hc=>?_
 exact wpAny_isTrue_BoolOp (CT ms h A env ls ρ σ v τ b μ s _ hR hc F S he ht Q E hQ)
theorem Lq{t a b:ME}(ht:ST X n xs t)(ha:SE X n xs a)(hb:SE X n xs b):SE X n xs (.ite t a b):=by
 intro A env ls ρ σ v τ μ s e hR hc F S he Q E hQ
 refine bw he λv1 σ1 h1 he=>?_
 refine aA (bind_some he) λc h2 he=>?_
 refine sZ hc λ_ _ _ _ c1 c2 c3=>?_
 refine wpAny_IfExp (ht A env ls ρ σ v1 σ1 c μ s _ hR c1 F S h1 h2 _ _ λao s₁ E₁ S₁=>?_)
 cases c with
 |true=>exact ha A env ls ρ σ1 v τ ao s₁ _ hR c2 (F.mono E₁) S₁ he Q E (hQ.more E₁)
 |false=>exact hb A env ls ρ σ1 v τ ao s₁ _ hR c3 (F.mono E₁) S₁ he Q E (hQ.more E₁)
theorem Lr{t a b:ME}(ht:ST X n xs t)(ha:ST X n xs a)(hb:ST X n xs b):ST X n xs (.ite t a b):=by
 intro A env ls ρ σ v τ b' μ s e hR hc F S he hv Q E hQ
 refine bw he λv1 σ1 h1 he=>?_
 refine aA (bind_some he) λc h2 he=>?_
 refine sZ hc λx y z pos c1 c2 c3=>?_
 refine(?_:wpAny _ _ (do if ←isTrue x env (eval x env) then isTrue y env (eval y env) else isTrue z env (eval z env)) Q E s)
 refine au (ht A env ls ρ σ v1 σ1 c μ s _ hR c1 F S h1 h2 _ _ λao s₁ E₁ S₁=>?_)
 cases c with
 |true=>exact ha A env ls ρ σ1 v τ b' ao s₁ _ hR c2 (F.mono E₁) S₁ he hv Q E (hQ.more E₁)
 |false=>exact hb A env ls ρ σ1 v τ b' ao s₁ _ hR c3 (F.mono E₁) S₁ he hv Q E (hQ.more E₁)
theorem kW{e:Expr}{q:List Expr}{env:PySem.Env}(h:(match e with| .Starred .. =>false|_=>true)=true):starEach (e::q) env=(false,eval e env)::starEach q env:=by
 cases e<;>first|rfl|exact nB h
theorem fN(ms:List ME)(hm:∀m∈ms,SE X n xs m):SL X n xs ms:=by
 induction ms with
 |nil=>
  intro A env ls ρ σ vs τ μ s es pos hR hc F S he Q E hQ
  exact ay (jE hc) (wpAny_items_nil ((hQ.of he) μ [] s .refl S rfl))
 |cons m r ih=>
  intro A env ls ρ σ vs τ μ s es pos hR hc F S he Q E hQ
  refine bw he λv1 σ1 h1 he=>mM he λws h2 e2=>nP (d9 hc) λe q cW st c1 c2=>ay cW ?_
  refine wpAny_items_cons (hm m (.head _) A env ls ρ σ v1 σ1 μ s e hR c1 F S h1 _ _ λao x s₁ E₁ S₁ aU=>?_) (kW st)
  exact ih (λk hk=>hm k (.tail _ hk)) A env ls ρ σ1 ws _ ao s₁ q pos hR c2 (F.mono E₁) S₁ h2 _ _ λbB ys s₂ E₂ S₂ cZ=>hQ bB (x::ys) s₂ (E₁.trans E₂) S₂ (e2▸⟨x,ys,rfl,aU.mono E₂,cZ⟩)
theorem ju{call:Nat→List V→aa→Option (V × aa)}{ρ:Env}{ms:List ME}:∀{σ:aa}{vs:List V}{τ:aa},jU call ρ ms σ=some (vs,τ)→vs.length=ms.length:=by
 induction ms with
 |nil=>exact λ{σ vs τ} h=>aj (λz:List V × aa=>z.1.length) (aX h).symm
 |cons m r ih=>exact λ{σ vs τ} h=>bw h λv1 σ1 h1 h=>Ad h λws σ2 h2 e2=>(aj (λz:List V × aa=>z.1.length) e2).symm.trans (aj Nat.succ (ih h2))
theorem Fc{ms:List ME}(h:∀m∈ms,SE X n xs m):SE X n xs (.tup ms):=by
 intro A env ls ρ σ v τ μ s e hR hc F S he Q E hQ
 refine mM he λvs h1 e1=>?_
 refine s7 hc λ_ _ _ hc1 hc2=>?_
 refine wpAny_Tuple (fN ms h A env ls ρ σ vs _ μ s _ _ hR hc2 F S h1 _ _ λao ys s₁ E₁ S₁ aU=>?_)
 have l1:=aU.length
 have l2:=ju h1
 refine⟨by rw[sizeLine_eq];exact cP [_,_,_] 1 vA (.num 16777216) [.l 1 vB (.num 100),.f 1 vC vA,.e 1 vC vB] aI hc1 l1 l2,(hQ.ov e1) ao _ _ (E₁.trans (cU.push _)) (S₁.push _ _) ?_⟩
 simp only[VR]
 exact⟨_,ys.toArray,0,rfl,S₁.fresh,dz _ rfl,aU.mono (cU.push _)⟩
theorem Fe{ms:List ME}(h:∀m∈ms,SE X n xs m):SE X n xs (.lst ms):=by
 intro A env ls ρ σ v τ μ s e hR hc F S he Q E hQ
 refine mM he λvs h1 e1=>?_
 refine s8 hc λ_ _ hc1 hc2=>?_
 refine wpAny_List (fN ms h A env ls ρ σ vs _ μ s _ _ hR hc2 F S h1 _ _ λao ys s₁ E₁ S₁ aU=>?_)
 have l1:=aU.length
 have l2:=ju h1
 refine⟨by rw[sizeLine_eq];exact cP [_,_,_] 1 vA (.num 16777216) [.l 1 vB (.num 100),.f 1 vC vA,.e 1 vC vB] aI hc1 l1 l2,(hQ.ov e1) ao _ _ (E₁.trans (cU.push _)) (S₁.push _ _) ?_⟩
 simp only[VR]
 exact⟨_,ys.toArray,0,rfl,S₁.fresh,dz _ rfl,aU.mono (cU.push _)⟩
theorem BS{ms:List ME}(h:∀m∈ms,SE X n xs m):SE X n xs (.cell ms):=by
 intro A env ls ρ σ v τ μ s e hR hc F S he Q E hQ
 refine Ad he λvs σ1 h1 e1=>?_
 clear he
 refine pK hc λ_ _ hc1 hc2=>?_
 refine wpAny_List (fN ms h A env ls ρ σ vs _ μ s _ _ hR hc2 F S h1 _ _ λao ys s₁ E₁ S₁ aU=>?_)
 have l1:=aU.length
 have l2:=ju h1
 obtain⟨S₂,E₂⟩:=S₁.cell (s':={s₁ with heap:=s₁.heap.push {cls:= .type "list",data:= .seq ys.toArray}}) (p:=(s₁.heap.objs.size,s₁.heap.objs.size)) (o:= .list vs) (λb x g=>gX _ g) (bS _) (bS _)
  ⟨rfl,ys.toArray,0,dz _ rfl,bN.bI ⟨⟨[_],rfl,by intro p hp o ho;simp at hp;subst hp;simp[kC (bS s₁.heap.objs.size)] at ho⟩,λb o _ g _=>gX _ g⟩ _ _ aU⟩
 refine⟨by rw[sizeLine_eq];exact cP [_,_,_] 1 vA (.num 16777216) [.l 1 vB (.num 100),.f 1 vC vA,.e 1 vC vB] aI hc1 l1 l2,(hQ.oq e1) _ _ _ (E₁.trans E₂) S₂ ?_⟩
 exact⟨(s₁.heap.objs.size,s₁.heap.objs.size),by show(ao++[_])[σ1.length]? =_;rw[←S₁.len];simp,rfl⟩
end
namespace BA
theorem eW:Slot "bytearray" "__getitem__" "bytearray.__getitem__":=
 .of (owner:="bytearray") (n:="__getitem__") (by rw[typeLookup_type,builtinLookup_eq_fast];kernel_rfl) (by decide+kernel) (by decide+kernel) (by decide+kernel)
  (by first|exact .inl (by decide+kernel)|exact .inr (by decide+kernel)) (by rw[isSubtype_type];kernel_rfl)
theorem nZ:entryFor table "bytearray.__getitem__"=some Builtin.«bytearray.__getitem__»:=entryFor_of_tree (by kernel_rfl)
theorem pQ(a b:Value):argsOk "bytearray.__getitem__" ⟨[a,b],[]⟩:=by unfold argsOk;kernel_rfl
theorem yL:Slot "bytearray" "__len__" "bytearray.__len__":=
 .of (owner:="bytearray") (n:="__len__") (by rw[typeLookup_type,builtinLookup_eq_fast];kernel_rfl) (by decide+kernel) (by decide+kernel) (by decide+kernel)
  (by first|exact .inl (by decide+kernel)|exact .inr (by decide+kernel)) (by rw[isSubtype_type];kernel_rfl)
theorem entry_len:entryFor table "bytearray.__len__"=some Builtin.«bytearray.__len__»:=entryFor_of_tree (by kernel_rfl)
theorem Ff(a:Value):argsOk "bytearray.__len__" ⟨[a],[]⟩:=by unfold argsOk;kernel_rfl
theorem vz:Slot "bytearray" "__iter__" "bytearray.__iter__":=
 .of (owner:="bytearray") (n:="__iter__") (by rw[typeLookup_type,builtinLookup_eq_fast];kernel_rfl) (by decide+kernel) (by decide+kernel) (by decide+kernel)
  (by first|exact .inl (by decide+kernel)|exact .inr (by decide+kernel)) (by rw[isSubtype_type];kernel_rfl)
theorem Ar:entryFor table "bytearray.__iter__"=some Builtin.«bytearray.__iter__»:=entryFor_of_tree (by kernel_rfl)
theorem CU(a:Value):argsOk "bytearray.__iter__" ⟨[a],[]⟩:=by unfold argsOk;kernel_rfl
end BA
section
variable {prog:Program} {w:World} {A:Around} {E:Value→Shared→Prop} {s:Shared}
theorem gR{s:Shared}{a:Addr}{b:Array UInt8}(h:s.heap.get? a=some (cL b)):s.TypeIs (.ref a) "bytearray":=⟨_,h,rfl⟩
theorem oK{a:Addr}{b:Array UInt8}{Q:Array UInt8→Shared→Prop}(h:s.heap.get? a=some (cL b))(hq:Q b s):wpAny (model prog w) A (Builtin.Bytes.payload (.ref a)) Q E s:=by
 exact au (au (wpAny_load h (aT (aT hq))))
theorem Fg{i:Int}{n:Nat}(h0:0≤i)(h1:i.toNat<n):seqIndex? i n=some i.toNat:=by
 unfold seqIndex?
 simp only[(kD ‹_›),if_false]
 exact ay (aC (by simp only[Bool.and_eq_true,decide_eq_true_eq];lia)) (rfl)
theorem As{a:Addr}{b:Array UInt8}{i:Int}{t:Tok}{x:UInt8}{Q:Value→Shared→Prop}(h:s.heap.get? a=some (cL b))(h0:0≤i)(h1:i<2 ^ 24)(hx:b[i.toNat]? =some x)(hq:Q (.int x.toNat s.toks) {s with toks:=s.toks+1}):
  wpAny (model prog w) A (getItem (.ref a) (.int i t)) Q E s:=by
 have hT:=gR h
 unfold getItem
 try with_reducible refine cF ?_
 first|refine au (aT ?_)|skip
 refine au (wpAny_sequenceKey hT (rfl) ?_)
 refine au (wpAny_callSpecial?_slot (name:=Str.ofString "__getitem__") hT BA.eW
  (wpAny_call_entry BA.eW hT BA.nZ ?_ (BA.pQ _ _)))
 refine(?_:wpAny _ _ (Builtin.Bytes.subscript? (.int i t)>>= _) _ _ s)
 refine au ?_
 refine au (wpAny_specialOf (T:="int") (typeIs_int s i t) int_index ?_)
 refine au (wpAny_of_eq (a:=i) rfl ?_)
 have hf:(Builtin.Bytes.fitsIndex i)=true:=by
  unfold Builtin.Bytes.fitsIndex
  simp only[Bool.and_eq_true,decide_eq_true_eq]
  lia
 refine ay hf (?_)
 simp only[Bool.not_true,Bool.false_eq_true,if_false]
 refine aT ?_
 refine au (oK h ?_)
 have lU:i.toNat<b.size:=(Array.getElem?_eq_some_iff.mp hx).1
 have e:(seqIndex? i b.size).bind (λk=>b[k]?)=some x:=by rw[Fg h0 lU,Option.bind_some,hx]
 refine ay e (?_)
 exact wpAny_ret_mkInt (aT hq)
noncomputable def CV(v:Value):Sem Value:=do
 if v== .none then return .none
 if(←specialOf v "__index__").isNone then
  rule "bytes.slice.part-no-index";raiseError "TypeError" "slice indices must be integers or None or have an __index__ method"
 return rawInt (←asIndex v)
theorem lV{v:Value}{k:Option Int}{Q:Value→Shared→Prop}(hv:IsPart v k)(h:Q (rawPart k) s):wpAny (model prog w) A (CV v) Q E s:=by
 cases hv with
 |none=>exact aT h
 |int i t=>
  refine au (wpAny_specialOf (T:="int") (typeIs_int s i t) int_index ?_)
  exact au (wpAny_of_eq (a:=i) rfl (aT h))
theorem lW(b:Array UInt8)(lo hi:Option Int):(Builtin.Bytes.sliced b (sliceBounds lo hi none b.size).1 (sliceBounds lo hi none b.size).2.1 (sliceBounds lo hi none b.size).2.2).toList=
  (b.toList.drop (lo.elim 0 (clipAt b.size))).take (hi.elim b.size (clipAt b.size)-lo.elim 0 (clipAt b.size)):=by
 rw[sliceBounds_plain]
 unfold Builtin.Bytes.sliced
 rw[sliceRange_one,pick_run]
theorem Fj{α:Type}(l:List α)(a c:Nat):(l.drop (min a l.length)).take (min c l.length-min a l.length)=nQ l a c:=by
 unfold nQ
 rcases Nat.lt_or_ge l.length a with h|h
 ·rw[List.drop_eq_nil_of_le (by grind:l.length≤min a l.length),List.drop_eq_nil_of_le (by exact Nat.le_of_lt h:l.length≤a)];simp
 ·refine ay (Nat.min_eq_left h) (?_)
  rcases Nat.lt_or_ge l.length c with h2|h2
  ·exact ay (List.take_of_length_le (by rw[List.length_drop];grind)) (ay (List.take_of_length_le (by rw[List.length_drop];grind)) (rfl))
  ·exact ay (Nat.min_eq_left h2) (rfl)
theorem ri{a sl:Addr}{b:Array UInt8}{vl vu:Value}{lo hi:Option Int}{Q:Value→Shared→Prop}(h:s.heap.get? a=some (cL b))(hs:s.heap.IsSliceOf sl vl vu .none)(pl:IsPart vl lo)(pu:IsPart vu hi)
  (l9:b.size≤1000000)
  (hq:∀c:Array UInt8,c=Builtin.Bytes.sliced b (sliceBounds lo hi none b.size).1 (sliceBounds lo hi none b.size).2.1 (sliceBounds lo hi none b.size).2.2→Q (.ref s.heap.objs.size) {s with heap:=s.heap.push (cL c)}):
  wpAny (model prog w) A (getItem (.ref a) (.ref sl)) Q E s:=by
 have hT:=gR h
 refine gC (id hs) λos hos hcs hds=>?_
 have UD:s.TypeIs (.ref sl) "slice":=⟨os,hos,hcs⟩
 unfold getItem
 try with_reducible refine cF ?_
 first|refine au (aT ?_)|skip
 refine au (wpAny_sequenceKey hT (rfl) ?_)
 refine au (wpAny_callSpecial?_slot (name:=Str.ofString "__getitem__") hT BA.eW
  (wpAny_call_entry BA.eW hT BA.nZ ?_ (BA.pQ _ _)))
 refine(?_:wpAny _ _ (Builtin.Bytes.subscript? (.ref sl)>>= _) _ _ s)
 refine au ?_
 refine au (wpAny_specialOf UD slice_no_index ?_)
 refine aT ?_
 refine au (wpAny_typeOf UD ?_)
 refine au (au (wpAny_field hos hds (x:= .none) rfl (au (lV .none ?_))))
 refine au (wpAny_field hos hds (x:=vl) rfl (au (lV pl ?_)))
 refine au (wpAny_field hos hds (x:=vu) rfl (au (lV pu (aT ?_))))
 refine au (oK h ?_)
 refine au (wpAny_of_eq (sliceIndices_raw lo hi none b.size (by decide)) ?_)
 refine au (wpAny_newObj_type (aT ⟨_,rfl,aT (hq _ rfl)⟩) ?_)
 have:(Builtin.Bytes.sliced b (sliceBounds lo hi none b.size).1 (sliceBounds lo hi none b.size).2.1 (sliceBounds lo hi none b.size).2.2).size≤b.size:=by
  rw[←gV,(lW b lo hi),List.length_take,List.length_drop,gV];lia
 exact cV this (by rw[sizeLine_eq];exact cP [_] 1 vA (.num 16777216) [.l 1 vA (.num 1000000)] aI l9)
theorem CW(c n:Nat)(hc:c≤n):Builtin.Slice.sliceAdjust none (some (c:Int)) 1 (n:Int)=(0,(c:Int)):=by
 unfold Builtin.Slice.sliceAdjust
 congr 1
 lia
theorem CX(c:Nat):Builtin.Slice.slicePlaces 0 (c:Int) 1=c:=by
 unfold Builtin.Slice.slicePlaces
 have h1:(1:Int)>0:=fF _
 simp only[h1,if_true,Int.ediv_one]
 split<;>lia
theorem rM{sl:Addr}{c n:Nat}{u:Tok}{Q:Int × Int × Nat→Shared→Prop}(hs:s.heap.IsSliceOf sl .none (.int c u) .none)(hc:c≤n)(h:Q (0,1,c) s):
  wpAny (model prog w) A (Builtin.Slice.sliceApplied (.ref sl) (pure (n:Int))) Q E s:=by
 refine gC (id hs) λos hos hcs hds=>?_
 refine au (au (wpAny_field hos hds (x:= .none) rfl (au (wpAny_field hos hds (x:= .int c u) rfl (au (wpAny_field hos hds (x:= .none) rfl (aT ?_)))))))
 refine au (slicePart_none ?_)
 refine au (slicePart_none (au (slicePart_int (au (aT ?_)))))
 refine(?_:wpAny _ _ (match Builtin.Slice.sliceAdjust none (some (c:Int)) 1 (n:Int) with|(lo,hi)=>pure (lo,(1:Int),Builtin.Slice.slicePlaces lo hi 1)) _ _ s)
 refine ay (CW c n hc) (?_)
 show wpAny _ _ (pure ((0:Int),(1:Int),Builtin.Slice.slicePlaces 0 (c:Int) 1)) _ _ s
 refine ay (CX c) (?_)
 exact aT h
theorem H7(xs:Array Value)(c:Nat)(hc:c≤xs.size):((List.range c).filterMap λ(k:Nat)=>xs[((0:Int)+(k:Int)*1).toNat]?).toArray=(xs.toList.take c).toArray:=by
 have e:(λ(k:Nat)=>xs[((0:Int)+(k:Int)*1).toNat]?)=λk=>xs[0+k]? :=by
  funext k
  have:((0:Int)+(k:Int)*1).toNat=0+k:=by lia
  exact ay this (rfl)
 refine ay e ?_
 have:=pick_run xs 0 c
 rw[List.filterMap_map] at this
 have e2:((λx=>xs[x]?)∘λx=>0+x)=λk=>xs[0+k]? :=rfl
 rw[e2] at this
 exact ay this (ay List.drop_zero (rfl))
theorem qA{t sl:Addr}{az:Array Value}{c:Nat}{u:Tok}{Q:Value→Shared→Prop}(ht:IsTup s.heap t az)(hs:s.heap.IsSliceOf sl .none (.int c u) .none)(hc:c<az.size)
  (h:Q (.ref s.heap.objs.size) {s with heap:=s.heap.push {cls:= .type "tuple",data:= .seq (az.toList.take c).toArray}})
  (l9:az.size≤sizeLine):wpAny (model prog w) A (getItem (.ref t) (.ref sl)) Q E s:=by
 have vp:sizeOk (.seq (az.toList.take c).toArray):=by
  refine(?_:(az.toList.take c).toArray.size≤sizeLine)
  refine ay List.size_toArray (ay List.length_take (ay gV (?_)))
  exact cV (Nat.min_le_right _ _) l9
 refine gC (id hs) λos hos hcs hds=>?_
 unfold getItem
 try with_reducible refine cF ?_
 first|refine au (aT ?_)|skip
 refine au (wpAny_sequenceKey ht.typeIs (rfl) ?_)
 refine au (wpAny_callSpecial?_slot (name:=Str.ofString "__getitem__") ht.typeIs slot_tuple_getitem
  (wpAny_call_entry slot_tuple_getitem ht.typeIs entry_tuple_getitem ?_ (args_tuple_getitem _ _)))
 refine(?_:wpAny _ _ (Builtin.Tuple.tupleItemsOf (.ref t)>>= _) _ _ s)
 refine au (tupleItemsOf_ ht ?_)
 refine au (wpAny_typeOf (⟨os,hos,hcs⟩) ?_)
 refine au (rM hs (Nat.le_of_lt hc) ?_)
 have hno:¬(((0:Int)==0&&(1:Int)==1&&c==az.size)=true):=by
  have:(c==az.size)=false:=by rw[beq_eq_false_iff_ne];exact λbT=>bO [_,_] [.s 1 vA vB,.f 1 vA vB] aI hc bT
  rw[this];simp
 refine(?_:wpAny _ _ (if((0:Int)==0&&(1:Int)==1&&c==az.size)=true then _ else _) _ _ s)
 refine(aB hno)▸(H7 az c (Nat.le_of_lt hc))▸ ?_
 first
  |exact au (m:=Builtin.Tuple.tupleExact _) (wpAny_newObj_type (aT ⟨_,rfl,aT h⟩) vp)
  |exact au (m:=Builtin.Tuple.tupleExact _) (wpAny_newObj_type (au (aT (aT ⟨_,rfl,aT h⟩))) vp)
  |exact au (au (m:=Builtin.Tuple.tupleExact _) (wpAny_newObj_type (aT (aT ⟨_,rfl,aT h⟩)) vp))
  |exact au (au (m:=Builtin.Tuple.tupleExact _) (wpAny_newObj_type (aT ⟨_,rfl,aT h⟩) vp))
end
section
variable {X:Ctx} {n:Nat} {xs:List Nat} {mg mb:Str→Option Value}
theorem mS{i:Int}{k:Nat}(h:gE i=some k):0≤i∧i<2 ^ 24∧i.toNat=k:=by
 unfold gE at h
 refine fJ h λz h=>?_
 cases h;exact⟨z.1,z.2,rfl⟩
theorem CY{v i r:V}{σ:aa}{G:Prop}(h:cH v i σ=some r)(k1:∀l j,v=.tup l→i=.int j→(gE j).bind (l[·]?)=some r→G)(k2:∀l j,v=.lst l→i=.int j→(gE j).bind (l[·]?)=some r→G)(k3:∀l j,v=.aM l→i=.int j→((gE j).bind (l[·]?)).map (λn:Nat=>V.int n)=some r→G)
  (k4:∀x l j,v=.loc x→σ[x]? =some (.list l)→i=.int j→(gE j).bind (l[·]?)=some r→G)(k5:∀x k es,v=.loc x→σ[x]? =some (.dict k es)→¬(kk i=0∨kk i=3∨k≠kk i)→aQ es i=some r→G):G:=by
 cases v<;>first|exact fY h|skip
 ·exact kE h λj e h=>k3 _ _ rfl e h
 ·exact kE h λj e h=>k1 _ _ rfl e h
 ·exact kE h λj e h=>k2 _ _ rfl e h
 ·exact NV h (λl e h=>kE h λj e2 h=>k4 _ _ _ rfl e e2 h) λj es e h=>CH h λq h=>k5 _ _ _ rfl e q h
theorem H8(B:bE X mg mb){A:Around}{μ:Mu}{σ:aa}{s:Shared}(S:St X μ σ s){v i r:V}{x y:Value}(hx:VR X μ s.heap v x)(hy:VR X μ s.heap i y)(he:cH v i σ=some r){value slice:Expr}
  {Q:Value→Shared→Prop}{E:Value→Shared→Prop}(hQ:lE X μ s r σ Q):wpAny (model X.prog X.w) A (subscriptTail value slice x y) Q E s:=by
 obtain⟨ops,hs⟩:=gw slice x y
 have q:∀z,VR X μ s.heap r z→Q z s:=λz hz=>hQ _ _ _ .refl S hz
 have qt:∀z t,VR X μ s.heap r z→Q z {s with toks:=t}:=λz t hz=>hQ _ _ _ .refl (S.tok _) hz
 refine CY he (λl j bP cW hf=>?_) (λl j bP cW hf=>?_) (λl j bP cW hf=>?_) (λl vs j bP h1 cW hf=>?_) (λl k es bP h1 z hf=>?_)
 ·subst bP cW
  obtain⟨k,h1,h2⟩:=bind_some hf
  obtain⟨h0,hl,rfl⟩:=mS h1
  simp only[VR] at hx hy
  obtain⟨a,az,m,rfl,_,g,hv⟩:=hx
  obtain⟨t,rfl⟩:=hy
  obtain⟨z,hz,hr⟩:=hv.at h2
  have hz':az[j.toNat]? =some z:=by rw[←jP];exact hz
  exact tail_any (T:="tuple") ⟨_,g,rfl⟩ slot_tuple_getitem.lookup (PyProof.Rows.getItem_tuple ⟨_,g,rfl,m,rfl⟩ (by exact lD [_] 1 (.neg (.num 9223372036854775808)) vA [.l 1 (.num 0) vA] aI h0) (by lia) (Fg h0 ((Array.getElem?_eq_some_iff.mp hz').1)) hz' (q z hr)) hs
 ·subst bP cW
  obtain⟨k,h1,h2⟩:=bind_some hf
  obtain⟨h0,hl,rfl⟩:=mS h1
  simp only[VR] at hx hy
  obtain⟨a,az,m,rfl,_,g,hv⟩:=hx
  obtain⟨t,rfl⟩:=hy
  obtain⟨z,hz,hr⟩:=hv.at h2
  have hz':az[j.toNat]? =some z:=by rw[←jP];exact hz
  exact tail_any (T:="list") ⟨_,g,rfl⟩ slot_list_getitem.lookup (wpAny_getItem_list ⟨_,g,rfl,m,rfl⟩ h0 (by lia) hz' (q z hr)) hs
 ·clear hQ he
  subst bP cW
  obtain⟨b,h3,rfl⟩:=map_some hf
  refine aA (bind_some h3) λk h1 h2=>?_
  obtain⟨h0,hl,rfl⟩:=mS h1
  refine nP hx λa arr cW _ g hv=>?_
  subst cW
  obtain⟨t,rfl⟩:=hy
  rw[←hv,List.getElem?_map] at h2
  refine aA (map_some h2) λu hu cW=>?_
  subst cW
  have Lb:arr[j.toNat]? =some u:=by rw[←jP];exact hu
  exact tail_any (T:="bytearray") ⟨_,g,rfl⟩ BA.eW.lookup (As g h0 hl Lb (qt _ _ (by simp only[VR];exact⟨_,rfl⟩))) hs
 ·subst bP cW
  obtain⟨k,h2,h3⟩:=bind_some hf
  obtain⟨h0,hl,rfl⟩:=mS h2
  simp only[VR] at hx hy
  obtain⟨p,hp,rfl⟩:=hx
  obtain⟨t,rfl⟩:=hy
  refine dY λG hG=>?_
  obtain⟨_,az,m,g,hv⟩:OR X μ s.heap p (.list vs):=S.obj l _ p h1 hp
  refine hG ?_
  refine aA (hv.at h3) λz hz hr=>?_
  have hz':az[j.toNat]? =some z:=by rw[←jP];exact hz
  exact tail_any (T:="list") ⟨_,g,rfl⟩ slot_list_getitem.lookup (wpAny_getItem_list ⟨_,g,rfl,m,rfl⟩ h0 (by lia) hz' (q z hr)) hs
 ·subst bP
  clear he
  simp only[VR] at hx
  obtain⟨p,hp,rfl⟩:=hx
  refine dF (S.obj l _ p h1 hp:OR X μ s.heap p (.dict k es)) λ_ D=>?_
  have hk:k=kk i:=Decidable.not_not.mp λq=>z (.inr (.inr q))
  clear h1
  rcases yI i with c|c|c|c
  ·exact absurd (.inl c) z
  ·refine bK (tC c) λj bP=>?_
   subst bP
   rw[c] at hk;subst hk
   refine aA D λkvs D Pr=>?_
   obtain⟨y',hy',hr⟩:=(Pr.find (k:= .int j) (j:=j) (jD j)).1 r hf
   simp only[VR] at hy
   obtain⟨t,rfl⟩:=hy
   exact tail_any D.typeIs slot_dict_getitem.lookup (wpAny_getItem_of (knd:=PySem.intKind X.prog X.w) (k:=j) (by simp[PySem.intKind,Value.isInt]) D.mapOf hy' (qt _ _ hr)) hs
  ·refine bK (tD c) λj bP=>?_
   subst bP
   rw[c] at hk;subst hk
   obtain⟨kvs,D,Pr⟩:=D
   simp only[VR] at hy
   obtain⟨hj,t,rfl⟩:=hy
   refine aA ((Pr.find (k:= .str j) (j:=X.NM j) (iV B hj)).1 r hf) λy' hy' hr=>?_
   exact tail_any D.typeIs slot_dict_getitem.lookup (wpAny_getItem_of (knd:=PySem.strKind X.prog X.w) (k:=X.NM j) (by simp[PySem.strKind,Value.isStrOf]) D.mapOf hy' (qt _ _ hr)) hs
  ·exact absurd (.inr (.inl c)) z
theorem BU(B:bE X mg mb){a b:ME}(ha:SE X n xs a)(hb:SE X n xs b):SE X n xs (.item a b):=by
 intro A env ls ρ σ v τ μ s e hR hc F S he Q E hQ
 refine bw he λv1 σ1 h1 he=>?_
 refine bM he λv2 h2 h3=>?_
 refine pH hc λ_ _ _ hc1 hc2=>?_
 exact Subscript_ (two ha hb hR hc1 hc2 F S h1 h2 λbA x y s' E' S' V1 V2=>H8 B S' V1 V2 h3 λAo z s'' Lg zX Lh=>hQ Ao z s'' (E'.trans Lg) zX Lh)
theorem Au{v r:V}{lo hi:Option Nat}{G:Prop}(h:qp v lo hi=some r)(k1:∀l a b,v=.aM l→lo=some a→hi=some b→l.length≤1000→.aM (nQ l a b)=r→G)(k2:∀l a,v=.aM l→lo=some a→hi=none→l.length≤1000→.aM (l.drop a)=r→G)
  (k3:∀l b,v=.lst l→lo=none→hi=some b→l.length≤1000→.lst (l.take b)=r→G)(k4:∀l b,v=.tup l→lo=none→hi=some b→b<l.length∧l.length≤1000→.tup (l.take b)=r→G):G:=by
 cases v<;>first|exact fY h|skip
 all_goals
  rcases lo with _|a<;>rcases hi with _|b<;>first
   |exact fY h
   |exact fJ h λc h=>k1 _ _ _ rfl rfl rfl c (aX h)
   |exact fJ h λc h=>k2 _ _ rfl rfl rfl c (aX h)
   |exact fJ h λc h=>k3 _ _ rfl rfl rfl c (aX h)
   |exact fJ h λc h=>k4 _ _ rfl rfl rfl c (aX h)
theorem tG{A:Around}{μ:Mu}{σ:aa}{s:Shared}(S:St X μ σ s){v r:V}{x vl vu:Value}{lo hi:Option Nat}{sl:Addr}(hx:VR X μ s.heap v x)(hs:s.heap.IsSliceOf sl vl vu .none)
  (pl:match lo with|some a=>∃t,vl=.int a t|none=>vl=.none)(pu:match hi with|some a=>∃t,vu=.int a t|none=>vu=.none)
  (he:qp v lo hi=some r){value slice:Expr}{Q:Value→Shared→Prop}{E:Value→Shared→Prop}(hQ:lE X μ s r σ Q):
  wpAny (model X.prog X.w) A (subscriptTail value slice x (.ref sl)) Q E s:=by
 refine bK (gw slice x (.ref sl)) λops hsub=>?_
 have part:∀(o:Option Nat)(v:Value),(match o with|some a=>∃t,v=.int a t|none=>v=.none)→IsPart v (o.map Int.ofNat):=by
  intro o v h
  cases o with
  |none=>dsimp only at h;subst h;exact .none
  |some a=>obtain⟨t,rfl⟩:=h;exact .int _ _
 refine Au he (λl a c yM Fo Ls hl Lu=>?_) (λl a yM Fo Ls hl Lu=>?_) (λl c yM Fo Ls hl Lu=>?_) (λl c yM Fo Ls lU Lu=>?_)
 ·clear he
  subst yM Fo Ls Lu
  simp only[VR] at hx
  obtain⟨ad,arr,rfl,_,g,hv⟩:=hx
  have l9:arr.size≤1000000:=by rw[←gV,←List.length_map (f:=λ(b:UInt8)=>b.toNat),hv];omega
  refine tail_any (T:="bytearray") ⟨_,g,rfl⟩ BA.eW.lookup (ri g hs (part (some a) _ pl) (part (some c) _ pu) l9 λd hd=>?_) hsub
  refine hQ μ _ _ (cU.push _) (S.push _ _) ?_
  simp only[VR]
  refine⟨_,d,rfl,S.fresh,dz _ rfl,?_⟩
  rw[hd,lW]
  simp only[Option.map_some,Option.elim_some]
  refine ay (show(Int.ofNat a)=(a:Int) from rfl) ?_
  refine ay (show(Int.ofNat c)=(c:Int) from rfl) ?_
  rw[clipAt_nat,clipAt_nat,←gV,Fj]
  refine ay (hv).symm ?_
  simp[nQ,List.map_take,List.map_drop]
 ·clear he
  subst yM Fo Ls Lu
  simp only[VR] at hx
  obtain⟨ad,arr,rfl,_,g,hv⟩:=hx
  have l9:arr.size≤1000000:=by rw[←gV,←List.length_map (f:=λ(b:UInt8)=>b.toNat),hv];omega
  refine tail_any (T:="bytearray") ⟨_,g,rfl⟩ BA.eW.lookup (ri g hs (part (some a) _ pl) (part none _ pu) l9 λd hd=>?_) hsub
  refine hQ μ _ _ (cU.push _) (S.push _ _) ?_
  simp only[VR]
  refine⟨_,d,rfl,S.fresh,dz _ rfl,?_⟩
  rw[hd,lW]
  simp only[Option.map_some,Option.map_none,Option.elim_some,Option.elim_none]
  refine ay (show(Int.ofNat a)=(a:Int) from rfl) ?_
  rw[clipAt_nat]
  refine ay (hv).symm ?_
  refine uE gV ?_
  rcases Nat.lt_or_ge arr.toList.length a with h|h
  ·rw[List.drop_eq_nil_of_le (by lia),List.drop_eq_nil_of_le (by rw[List.length_map];exact Nat.le_of_lt h)];simp
  ·exact ay (Nat.min_eq_left h) (ay (List.take_of_length_le (by rw[List.length_drop];exact cP [_] 1 vA vA [] aI)) (ay List.map_drop (rfl)))
 ·subst yM Fo Ls Lu
  refine jN hx λad az m yJ _ g hv=>?_
  subst yJ
  have e1:=hv.length
  simp only[gV] at e1
  refine tail_any (T:="list") ⟨_,g,rfl⟩ slot_list_getitem.lookup (wpAny_getItem_list_slice ⟨_,g,rfl,m,rfl⟩ hs (part none _ pl) (part (some c) _ pu) .none (by decide) ?_ (by rw[sizeLine_eq];exact cP [_,_] 1 vA (.num 16777216) [.l 1 vB (.num 1000),.f 1 vB vA] aI hl e1)) hsub
  refine hQ μ _ _ (cU.push _) (S.push _ _) ?_
  simp only[VR]
  refine⟨_,_,0,rfl,S.fresh,dz _ rfl,?_⟩
  simp only[Option.map_some,Option.map_none]
  refine ay (show(Int.ofNat c)=(c:Int) from rfl) ?_
  rw[slicePick_upto']
  exact bN.mono (cU.push _) (by simpa using hv.take c)
 ·subst yM Fo Ls Lu
  obtain⟨lU,hl⟩:=lU
  refine jN hx λad az m yJ _ g hv=>?_
  subst yJ
  have e1:=hv.length
  simp only[gV] at e1
  obtain⟨t,rfl⟩:=pu
  dsimp only at pl
  subst pl
  refine tail_any (T:="tuple") ⟨_,g,rfl⟩ slot_tuple_getitem.lookup (qA ⟨_,g,rfl,m,rfl⟩ hs (by exact iN lU e1) ?_ (by rw[sizeLine_eq];exact cP [_,_] 1 vA (.num 16777216) [.l 1 vB (.num 1000),.f 1 vB vA] aI hl e1)) hsub
  refine hQ μ _ _ (cU.push _) (S.push _ _) ?_
  simp only[VR]
  refine⟨_,_,0,rfl,S.fresh,dz _ rfl,?_⟩
  exact bN.mono (cU.push _) (by simpa using hv.take c)
theorem oM{M:Model}{A:Around}{s:Shared}{l u st:Value}{Q:Value→Shared→Prop}{E:Value→Shared→Prop}
  (h:Q (.ref s.heap.objs.size) {s with heap:=s.heap.push {cls:= .type "slice",data:= .fields #[l,u,st]}}):wpAny M A (newFields "slice" [l,u,st]) Q E s:=by
 refine wpAny_newObj_type h ?_
 refine(?_:(3:Nat)≤sizeLine+2)
 rw[sizeLine_eq];exact cP [] 1 (.num 3) (.add (.num 16777216) (.num 2)) [] aI
theorem yN(B:bE X mg mb){a b c:ME}(ha:SE X n xs a)(hb:SE X n xs b)(hcc:SE X n xs c):SE X n xs (.slice a b c):=by
 intro A env ls ρ σ v τ μ s e hR hc F S he Q E hQ
 refine dY λG hG=>?_
 refine bw he λv1 σ1 h1 he=>?_
 refine bw he λv2 σ2 h2 he=>?_
 refine bM (f:=λb _=>HP v1 v2 b) he λv3 h3 hf=>?_
 refine hG ?_
 refine dY λG hG=>?_
 refine KY hf λi j bP cW hf1=>?_
 subst bP cW
 refine aA (bind_some hf1) λk1 g1 hf2=>?_
 refine aA (bind_some hf2) λk2 g2 h4=>?_
 refine gj (mS g1) λz1 _ cW=>?_
 subst cW
 refine gj (mS g2) λz2 _ cW=>?_
 subst cW
 refine hG ?_
 refine mK hc λ_ _ _ _ _ c1 c2 c3=>?_
 refine Subscript_ (ha A env ls ρ σ v1 σ1 μ s _ hR c1 F S h1 _ _ λao x s₁ E₁ S₁ aU=>?_)
 rename_i o ea eb p1 p2
 show wpAny _ _ (do
  let l ←eval ea env
  let u ←holding [l] (eval eb env)
  let s ←holding [l,u] (pure Value.none)
  newFields "slice" [l,u,s]) _ E s₁
 refine au (hb A env ls ρ σ1 _ σ2 ao s₁ _ hR c2 (F.mono E₁) S₁ h2 _ _ λbB y s₂ E₂ S₂ cZ=>?_)
 refine au (cF (hcc A env ls ρ σ2 _ _ bB s₂ _ hR c3 ((F.mono E₁).mono E₂) S₂ h3 _ _ λdP z s₃ E₃ cu kg=>?_))
 refine au (cF (aT (oM ?_)))
 simp only[VR] at cZ kg
 obtain⟨t,rfl⟩:=cZ
 obtain⟨t',rfl⟩:=kg
 refine tG (cu.push _ _) (lo:=some i.toNat) (hi:=some j.toNat) (((aU.mono E₂).mono E₃).mono (cU.push _)) (Heap.IsSliceOf.new _ _ _ _) ⟨t,by rw[Int.toNat_of_nonneg z1]⟩ ⟨t',by rw[Int.toNat_of_nonneg z2]⟩ h4 λiX w s₄ gk iA kU=>?_
 exact hQ iX w s₄ ((((E₁.trans E₂).trans E₃).trans (cU.push _)).trans gk) iA kU
theorem vK(B:bE X mg mb){a b:ME}(ha:SE X n xs a)(hb:SE X n xs b):SE X n xs (.lH a b):=by
 intro A env ls ρ σ v τ μ s e hR hc F S he Q E hQ
 refine bw he λv1 σ1 h1 he=>?_
 refine bM (f:=λb _=>Na v1 b) he λv2 h2 hf=>?_
 refine dY λG hG=>?_
 refine kE hf λi bP hf1=>?_
 subst bP
 refine aA (bind_some hf1) λk1 g1 h4=>?_
 refine gj (mS g1) λz1 _ cW=>?_
 subst cW
 refine hG ?_
 refine kM hc λ_ _ _ _ c1 c2=>?_
 refine Subscript_ (ha A env ls ρ σ v1 σ1 μ s _ hR c1 F S h1 _ _ λao x s₁ E₁ S₁ aU=>?_)
 rename_i o ea p1 p2
 show wpAny _ _ (do
  let l ←eval ea env
  let u ←holding [l] (pure Value.none)
  let s ←holding [l,u] (pure Value.none)
  newFields "slice" [l,u,s]) _ E s₁
 refine au (hb A env ls ρ σ1 _ _ ao s₁ _ hR c2 (F.mono E₁) S₁ h2 _ _ λbB y s₂ E₂ S₂ cZ=>?_)
 refine au (cF (aT ?_))
 refine au (cF (aT (oM ?_)))
 refine VR.gf cZ λt=>?_
 refine tG (S₂.push _ _) (lo:=some i.toNat) (hi:=none) ((aU.mono E₂).mono (cU.push _)) (Heap.IsSliceOf.new _ _ _ _) ⟨t,by rw[Int.toNat_of_nonneg z1]⟩ rfl h4 λiX w s₄ gk iA kU=>?_
 exact hQ iX w s₄ (((E₁.trans E₂).trans (cU.push _)).trans gk) iA kU
theorem vL(B:bE X mg mb){a b:ME}(ha:SE X n xs a)(hb:SE X n xs b):SE X n xs (.j3 a b):=by
 intro A env ls ρ σ v τ μ s e hR hc F S he Q E hQ
 refine bw he λv1 σ1 h1 he=>?_
 refine bM (f:=λb _=>NX v1 b) he λv2 h2 hf=>?_
 refine dY λG hG=>?_
 refine kE hf λi bP hf1=>?_
 subst bP
 refine aA (bind_some hf1) λk1 g1 h4=>?_
 refine gj (mS g1) λz1 _ cW=>?_
 subst cW
 refine hG ?_
 refine kN hc λ_ _ _ _ c1 c2=>?_
 refine Subscript_ (ha A env ls ρ σ v1 σ1 μ s _ hR c1 F S h1 _ _ λao x s₁ E₁ S₁ aU=>?_)
 rename_i o ea p1 p2
 show wpAny _ _ (do
  let l ←pure Value.none
  let u ←holding [l] (eval ea env)
  let s ←holding [l,u] (pure Value.none)
  newFields "slice" [l,u,s]) _ E s₁
 refine au (aT ?_)
 refine au (cF (hb A env ls ρ σ1 _ _ ao s₁ _ hR c2 (F.mono E₁) S₁ h2 _ _ λbB y s₂ E₂ S₂ cZ=>?_))
 refine au (cF (aT (oM ?_)))
 refine VR.gf cZ λt=>?_
 refine tG (S₂.push _ _) (lo:=none) (hi:=some i.toNat) ((aU.mono E₂).mono (cU.push _)) (Heap.IsSliceOf.new _ _ _ _) rfl ⟨t,by rw[Int.toNat_of_nonneg z1]⟩ h4 λiX w s₄ gk iA kU=>?_
 exact hQ iX w s₄ (((E₁.trans E₂).trans (cU.push _)).trans gk) iA kU
structure Keeps(X:Ctx):Prop where
 fn:∀f,f<fns.length→keepIn X.K (.ref (X.FA f))=true
 cl:∀c∈lI,keepIn X.K (.ref (X.CA c))=true
theorem lX{pos:Pos}{env:PySem.Env}{ls:List (Option Nat)}{W:qU}{sc:Scope}:∀{ms:List ME}{es:List Expr},jn W sc ls ms es=true→(backTo pos (starEach es env)).any (·.1)=false
 | [],es,h=>by cases jE h;rfl
 |m::r,es,h=>by
  refine nP (d9 h) λe q cW st _ c2=>?_
  refine ay cW ?_
  refine ay (kW st) ?_
  have:=lX (pos:=pos) (env:=env) c2
  refine(?_:(false||(backTo pos (starEach q env)).any (·.1))=false)
  rw[this];rfl
theorem tH{K:Frag}{M:Model}{A:Around}{E:Value→Shared→Prop}{s:Shared}{env:PySem.Env}{pos:Pos}{f:Value}{ls:List (Option Nat)}{W:qU}{sc:Scope}{ms:List ME}{es:List Expr}{Q:Value→Shared→Prop}
  (hk:keepIn K f=true)(hc:jn W sc ls ms es=true)(h:wpAny M A (spliced (backTo pos (starEach es env))) (λvs s₁=>K.In s₁.heap∧wpAny M A (call f vs) Q E s₁) E s):
  wpAny M A (callWith pos f [] (backTo pos (starEach es env)) []) Q E s:=by
 refine callWith_of (by rw[lX hc];rfl) (keeps_K hk) ?_
 cases es with
 |nil=>
  refine au (fq h (λvs s' h'=>?_) λ_ _ x=>x)
  refine au (aT ?_)
  refine cF ?_
  exact au (aT (au (aT (aT h'))))
 |cons e q=>
  cases ms with
  |nil=>cases jE hc
  |cons m r=>
   refine dY λG hG=>?_
   refine nP (d9 hc) λe' q' eq st _ _=>?_
   cases eq
   refine hG ?_
   rw[kW st] at h⊢
   exact evalArgs_plain h
theorem Room.toC{A:Around}{n:Nat}(h:Room A n):pM A n:=⟨h.1,by have:=h.2.1;exact cP [_,_,_] 1 (.add (.add vA (.mulL 4 vB)) (.num 118)) vC [.l 1 (.add (.add vA (.mulL 4 vB)) (.num 120)) vC] aI this,by have:=h.2.2;exact cP [_,_,_] 1 (.add (.add vA (.mulL 20 vB)) (.num 30)) vC [.l 1 (.add (.add vA (.mulL 20 vB)) (.num 40)) vC] aI this⟩
theorem Room.under{A:Around}{n:Nat}(h:Room A n)(C:Addr)(vals:List Value):pM (A.under (.builtin "type.__call__" ⟨.ref C::vals,[]⟩)) n:=
 ⟨h.1,by rw[depth_under_make];have:=h.2.1;exact cP [_,_,_] 1 (.add (.add (.add vA (.num 1)) (.mulL 4 vB)) (.num 118)) vC [.l 1 (.add (.add vA (.mulL 4 vB)) (.num 120)) vC] aI this,by rw[units_under_make];have:=h.2.2;exact cP [_,_,_] 1 (.add (.add (.add vA (.num 1)) (.mulL 20 vB)) (.num 30)) vC [.l 1 (.add (.add vA (.mulL 20 vB)) (.num 40)) vC] aI this⟩
theorem pM.deeper{A:Around}{n:Nat}(h:pM A (n+1))(env:PySem.Env):Room (A.deeper env) n:=
 ⟨h.1,by rw[depth_deeper];have:=h.2.1;exact cP [_,_,_] 1 (.add (.add (.add vA (.num 1)) (.mulL 4 vB)) (.num 120)) vC [.l 1 (.add (.add vA (.mulL 4 (.add vB (.num 1)))) (.num 118)) vC] aI this,by rw[units_deeper];have:=h.2.2;exact cP [_,_,_] 1 (.add (.add (.add vA (.num 3)) (.mulL 20 vB)) (.num 40)) vC [.l 1 (.add (.add vA (.mulL 20 (.add vB (.num 1)))) (.num 30)) vC] aI this⟩
theorem Fp{n f:Nat}{vs:List V}{σ:aa}{r:V × aa}(h:af P0 n f vs σ=some r):f<fns.length:=by
 cases n with
 |zero=>simp[af] at h
 |succ n=>
  refine aA (bind_some h) λd hd _=>?_
  unfold P0 at hd
  refine CH hd λ_ hd=>?_
  exact(eY hd).1
set_option tactic.hygienic true in
theorem BV (B : bE X mg mb) (Kp : Keeps X) (hC : SC X n) {f : ME} {ms : List ME} (hf : SE X n xs f) (hm : ∀ m ∈ ms, SE X n xs m) : SE X n xs (.call f ms) := by
  intro A env ls ρ σ v τ μ s e hR hc F S he Q E hQ
  refine bw he fun v1 σ1 h1 he => ?_
  refine bw he fun vs σ2 h2 he => ?_
  dsimp only at he
  refine jX hc fun g es pos c0 c1 c2 => ?_
  have key : wpAny (model X.prog X.w) A (do callWith pos (← eval g env) [] (backTo pos (starEach es env)) []) Q E s → wpAny (model X.prog X.w) A (eval (.Call g es [] pos) env) Q E s := by
    intro h
    cases g <;> first | (cases c0; done) | exact h
  refine key ?_
  refine au (hf A env ls ρ σ v1 σ1 μ s _ hR c1 F S h1 _ _ fun ao fv s₁ E₁ S₁ aU => ?_)
  clear h1
  split at he
  · rename_i k _
    simp only [VR] at aU
    subst aU
    refine tH (Kp.fn k (Fp he)) c2 ?_
    refine fN ms hm A env ls ρ σ1 vs σ2 ao s₁ es pos hR c2 (F.mono E₁) S₁ h2 _ _ fun bB ys s₂ E₂ S₂ cZ => ?_
    refine ⟨B.kx S₂, wpAny_call ?_⟩
    exact hC k vs σ2 v τ he A bB s₂ ys hR.toC S₂ cZ _ fun dP x s₃ E₃ cu kg => hQ dP x s₃ ((E₁.trans E₂).trans E₃) cu kg
  · rename_i k _
    simp only [VR] at aU
    obtain ⟨rfl, hk⟩ := aU
    obtain ⟨⟨r, mq⟩, h3, he⟩ := bind_some he
    refine tH (Kp.cl k hk) c2 ?_
    refine fN ms hm A env ls ρ σ1 vs σ2 ao s₁ es pos hR c2 (F.mono E₁) S₁ h2 _ _ fun bB ys s₂ E₂ S₂ cZ => ?_
    refine ⟨B.kx S₂, wpAny_call ?_⟩
    have C := B.cls k hk
    have XK := B.kx S₂
    obtain ⟨hh, g₂, d₂, t₂, yO⟩ := s₂
    refine make_core (makes_of XK C.makes) (looks_findIn XK C.init) (fun self => bind_fn XK self C.K8) (.inl rfl) ?_
    obtain ⟨cu, E₃⟩ := S₂.cell (s' := ⟨(hh.push emptyDict).push (instObj (X.CA k) hh.objs.size), g₂, d₂, t₂, yO⟩) (p := (hh.objs.size + 1, hh.objs.size)) (o := .inst k [])
      (fun b x g => gX _ (gX _ g)) (Nat.le_succ _) (bS _)
      ⟨by simp, #[], 0, by heap_get, by heap_get, by simp only [mJ], hk, rfl⟩
    refine hC k (.loc σ2.length :: vs) (σ2 ++ [.inst k []]) r mq h3 _ _ _ (.ref (hh.objs.size + 1) :: ys) (hR.under _ _) cu ?_ _ ?_
    · simp only [bN]
      refine ⟨_, _, rfl, ?_, cZ.mono E₃⟩
      exact ⟨(hh.objs.size + 1, hh.objs.size), by rw [← S₂.len]; simp, rfl⟩
    · intro iX x s₄ gk iA kU
      dsimp only at he
      refine Ae he fun bP he => ?_
      clear h3
      subst bP
      simp only [VR] at kU
      refine ⟨kU, ?_⟩
      refine (hQ.of he) iX _ s₄ (((E₁.trans E₂).trans E₃).trans gk) iA ?_
      exact ⟨(hh.objs.size + 1, hh.objs.size), gk.get (by rw [← S₂.len]; simp), rfl⟩
  · cases he
theorem CZ{prog:Program}{w:World}{A:Around}{s:Shared}{a:Addr}{b:Array UInt8}{Q:Value→Shared→Prop}{E:Value→Shared→Prop}(h:s.heap.get? a=some (cL b))(hz:b.size≤1000000)
  (hq:Q (.int b.size (s.toks+1)) {s with toks:=s.toks+1+1}):wpAny (model prog w) A (call (.builtin "len") [.ref a]) Q E s:=by
 refine call_len_slot (gR h) BA.yL (λQ' h'=>wpAny_call_entry BA.yL (gR h) BA.entry_len ?_ (BA.Ff _)) (by exact kD (fF _)) (by exact Int.not_le.mpr (ltI [_] 1 vA (.num 9223372036854775808) [.l 1 vA (.num 1000000)] aI (gh hz))) hq
 refine(?_:wpAny _ _ (Builtin.Bytes.payload (.ref a)>>= _) _ _ s)
 refine au (oK h ?_)
 exact au (wpAny_mkInt (aT ⟨_,rfl,h'⟩))
set_option tactic.hygienic true in
theorem Lv (B : bE X mg mb) {A : Around} {μ : Mu} {σ : aa} {s : Shared} (S : St X μ σ s) {v r : V} {x : Value} (hx : VR X μ s.heap v x) (he : dJ .len v σ = some r)
    {Q : Value → Shared → Prop} {E : Value → Shared → Prop} (hQ : lE X μ s r σ Q) : wpAny (model X.prog X.w) A (call (.builtin "len") [x]) Q E s := by
  have qi : ∀ (k : Nat) t u, some (.int k) = some r → Q (.int k t) { s with toks := u } := fun k t u e => (hQ.os e) _ _ _ .refl (S.tok _) ⟨t, rfl⟩
  cases v <;> first | exact fY he | skip
  · refine fJ he fun hl he => VR.BH hx fun a arr _ g hv => ?_
    have l9 := (aj List.length hv).symm.trans (List.length_map ..)
    exact CZ g (by rw [← gV]; omega) (qi _ _ _ (by rw [← gV, ← l9]; exact he))
  · refine fJ he fun hl he => VR.qu hx fun a az m _ g hv => ?_
    have l9 := hv.length.trans gV
    exact call_len_list ⟨_, g, rfl, m, rfl⟩ (by omega) (qi _ _ _ (l9 ▸ he))
  · refine VR.qs hx fun p hp => NV he (fun vs h1 he => ?_) fun k es h1 he => ?_
    · refine fJ he fun hl he => oA (S.obj _ _ p h1 hp).2 fun az m g hv => ?_
      have l9 := hv.length.trans gV
      exact call_len_list ⟨_, g, rfl, m, rfl⟩ (by omega) (qi _ _ _ (l9 ▸ he))
    · refine fJ he fun hl he => aA (fy.Ld (S.obj _ _ p h1 hp).2 (by lia)) fun kvs D Pr => ?_
      have l9 := Pr.length
      exact call_len_dict (iW B S hp) D (by exact ltI [_, _] 1 vA (.num 9223372036854775808) [.l 1 vB (.num 100000), .f 1 vB vA] aI (gh hl.2) (aj Int.ofNat l9)) (qi _ _ _ (l9 ▸ he))
theorem Fq(B:bE X mg mb){A:Around}{μ:Mu}{σ:aa}{s:Shared}(S:St X μ σ s){v r:V}{x:Value}(hx:VR X μ s.heap v x)(he:dJ .range v σ=some r)
  {Q:Value→Shared→Prop}{E:Value→Shared→Prop}(hQ:lE X μ s r σ Q):wpAny (model X.prog X.w) A (call (.type "range") [x]) Q E s:=by
 refine kE he λi bP he=>?_
 subst bP
 refine fJ he λ_ he=>?_
 refine VR.gf hx λt=>?_
 refine call_range_1 ((hQ.os he) μ _ _ (cU.push _) (S.push _ _) ?_)
 simp only[VR]
 exact⟨_,_,_,_,rfl,S.fresh,dz _ rfl⟩
set_option tactic.hygienic true in
theorem rj {μ : Mu} {h : Heap} : ∀ {l : List V} {ys : List Value} {bs : List Nat}, mu l = some bs → bN X μ h l ys → ∃ ns : List Int, IntsAre ys ns ∧ (∀ n ∈ ns, 0 ≤ n ∧ n < 256) ∧ ns.map (·.toNat) = bs
  | [], ys, bs, e, g => by
    simp only [mu, Option.some.injEq] at e
    simp only [bN] at g
    subst e g
    exact ⟨[], .nil, by decide, rfl⟩
  | v :: r, ys, bs, e, g => by
    refine bN.eC g fun y q g1 g2 => ?_
    cases v <;> simp only [mu] at e <;> (try (cases e; done))
    rename_i i
    refine fJ e fun hi e => ?_
    refine aA (map_some e) fun bs' e' cW => ?_
    clear e
    refine uE cW ?_
    refine gC (rj e' g2) fun ns h1 h2 h3 => ?_
    clear e
    refine VR.gf g1 fun t => ?_
    refine ⟨i :: ns, .cons _ _ h1, ?_, by rw [fm, h3]⟩
    intro m hm
    rcases eH hm with rfl | hm
    · exact hi
    · exact h2 m hm
theorem uP:∀{ns:List Int},(∀n∈ns,0≤n∧n<256)→(byteArr ns).toList.map (·.toNat)=ns.map (·.toNat)
 |ns,h=>by
  unfold byteArr
  simp only[List.map_map]
  refine List.map_congr_left λn hn=>?_
  have:=h n hn
  refine(?_:(n.toNat.toUInt8).toNat=n.toNat)
  simp[Nat.mod_eq_of_lt (by exact Int.ofNat_lt.mp (ltI [_,_] 1 vA (.num 256) [.s 1 vB (.num 256),.e 1 vA vB] aI this.2 (Int.toNat_of_nonneg (this.1))):n.toNat<256)]
theorem Ft(B:bE X mg mb){A:Around}{c:Nat}(hR:Room A c){μ:Mu}{σ:aa}{s:Shared}(S:St X μ σ s){v r:V}{x:Value}(hx:VR X μ s.heap v x)(he:dJ .bytes v σ=some r)
  {Q:Value→Shared→Prop}{E:Value→Shared→Prop}(hQ:lE X μ s r σ Q):wpAny (model X.prog X.w) A (call (.type "bytes") [x]) Q E s:=by
 refine Eu he λl bP he=>?_
 subst bP
 refine fJ he λhl he=>?_
 refine aA (map_some he) λbs e1 cW=>?_
 refine VR.qu hx λa az m _ g hv=>?_
 have l9:List.length _=_:=hv.length
 simp only[gV] at l9
 refine gC (rj e1 hv) λns h1 h2 h3=>?_
 refine call_bytes_ints (vs:=az.toList) (ns:=ns) ⟨_,g,rfl,m,rfl⟩ h1 h2 (by rw[sizeLine_eq,gV];exact cP [_,_] 1 vA (.num 16777216) [.l 1 vB (.num 100000),.f 1 vB vA] aI hl l9) hR.1 λh' t k hk=>?_
 refine(hQ.ov cW) μ _ _ (cU.more hk) (S.more hk) ?_
 exact⟨_,t,rfl,by rw[uP h2,h3]⟩
theorem vM{M:Model}{A:Around}{s:Shared}{env:PySem.Env}{o j:Expr}{a:Str}{p q:Pos}{Q:Value→Shared→Prop}{E:Value→Shared→Prop}(hp:gO o=true)(hl:(p.endLine==q.line)=true)
  (hst:starEach [j] env=[(false,eval j env)])
  (h:wpAny M A (eval o env) (λov s₁=>∀pl,∃fid,(∀Q',Q' (Value.builtin fid,[ov]) s₁→wpAny M A (getMethod ov a pl) Q' E s₁)∧wpAny M A (eval j env) (λv s₂=>wpAny M A (call (.builtin fid) [ov,v]) Q E s₂) E s₁) E s):
  wpAny M A (eval (.Call (.Attribute o a p) [j] [] q) env) Q E s:=by
 show wpAny M A (do
  let ov ←attributeBase o a env (eval o env)
  standAt p.atName
  methodCall o a p q env ov 1 (backTo q (starEach [j] env)) []) Q E s
 refine(oH hp)▸hst▸ ?_
 refine au (fq h (λov s₁ h₁=>?_) λ_ _ x=>x)
 refine au (wpAny_standAt ?_)
 unfold methodCall
 refine ay ((rfl:methodCallForm 1 (backTo q [(false,eval j env)]) []=true)) ?_
 refine aA (h₁ (do return(←importBound o env).getD true)) λfid h2 h3=>?_
 refine au (cF ?_)
 refine(?_:wpAny M A (getMethod ov a _) _ E s₁)
 refine h2 _ ?_
 dsimp only
 unfold methodCallPos
 refine ay hl (?_)
 refine au ?_
 refine aT ?_
 exact callWith_builtin rfl (evalArgs_plain (spliced_cons (fq h3 (λ_ _ x=>spliced_nil x) λ_ _ x=>x)))
theorem jZ{W:qU}{sc:Scope}{ls:List (Option Nat)}{m:ME}{e:Expr}(h:aJ W sc ls m e=true)(hn:m≠ .never):∀{env:PySem.Env},starEach [e] env=[(false,eval e env)]:=by
 intro env
 cases m
 ·exact qw h λ_ _ _ _=>rfl
 ·exact qx h λ_ _ _ _=>rfl
 ·exact jW h λ_ _ _ _ _ _=>rfl
 ·exact pG h λ_ _ _ _ _ _ _=>rfl
 ·exact pH h λ_ _ _ _ _=>rfl
 ·exact mK h λ_ _ _ _ _ _ _ _=>rfl
 ·exact kM h λ_ _ _ _ _ _=>rfl
 ·exact kN h λ_ _ _ _ _ _=>rfl
 ·exact jX h λ_ _ _ _ _ _=>rfl
 ·exact kO h λ_ _ _ _ _ _ _ _=>rfl
 ·exact pI h λ_ _ _ _ _ _ _ _ _ _=>rfl
 ·exact kQ h λ_ _ _ _ _ _ _ _ _ _=>rfl
 ·exact qy h λ_ _ _ _ _ _ _=>rfl
 ·exact sV h λ_ _ _=>rfl
 ·exact sW h λ_ _ _=>rfl
 ·exact sX h λ_ _ _=>rfl
 ·exact yq h λ_ _ _=>rfl
 ·exact sY h λ_ _ _ _ _ _ _=>rfl
 ·exact pJ h λ_ _ _ _ _ _ _ _ _ _ _ _=>rfl
 ·exact sZ h λ_ _ _ _ _ _ _=>rfl
 ·exact s7 h λ_ _ _ _ _=>rfl
 ·exact s8 h λ_ _ _ _=>rfl
 ·exact pK h λ_ _ _ _=>rfl
 ·exact pL h λ_ _ _ _ _=>rfl
 ·exact mL h λ_ _ _ _ _ _ _ _ _ _ _=>rfl
 ·exact mO h λ_ _ _ _ _ _ _ _ _ _=>rfl
 ·exact absurd rfl hn
set_option tactic.hygienic true in
theorem C0 {μ : Mu} {σ : aa} {s : Shared} (S : St X μ σ s) {l : Nat} {p : Addr × Addr} (hp : μ[l]? = some p) (h : oE (.loc l) σ = true) : ∃ ds m, s.heap.get? p.1 = some (gF ds m) := by
  simp only [oE] at h
  split at h
  · rename_i k es ho
    refine dF (S.obj l _ p ho hp : OR X μ s.heap p (.dict k es)) fun _ D => ?_
    exact D.obj
  · exact nomatch h
set_option tactic.hygienic true in
theorem C5 {μ : Mu} {σ : aa} {s : Shared} (S : St X μ σ s) {l : Nat} {p : Addr × Addr} (hp : μ[l]? = some p) (h : mH (.loc l) σ = true) : ∃ ds m, s.heap.get? p.1 = some (j7 ds m) := by
  simp only [mH] at h
  split at h
  · rename_i vs ho
    refine dY fun G hG => ?_
    obtain ⟨_, az, m, g, _⟩ : OR X μ s.heap p (.list vs) := S.obj l _ p ho hp
    refine hG ?_
    exact ⟨az, m, g⟩
  · cases h
set_option tactic.hygienic true in
theorem BW (B : bE X mg mb) {a b : ME} (ha : SE X n xs a) (hb : SE X n xs b) : SE X n xs (.uI a b) := by
  intro A env ls ρ σ v τ μ s e hR hc F S he Q E hQ
  refine bw he fun v1 σ1 h1 he => ?_
  dsimp only at he
  split at he
  · rename_i hd
    refine bw he fun v2 σ2 h2 he => ?_
    refine aA (map_some he) fun r h3 e3 => ?_
    refine pI hc fun o at' p j q c1 c2 c3 c4 c5 => ?_
    have Hy := c1
    clear c1
    refine ay Hy ?_
    refine vM c3 (beq_iff_eq.mpr c2) (jZ c5 (cQ h2)) (ha A env ls ρ σ _ σ1 μ s _ hR c4 F S h1 _ _ fun ao x s₁ E₁ S₁ aU => ?_)
    intro pl
    unfold qX at h3
    clear h1
    split at h3
    · rename_i l _
      refine aA aU fun pr hp cW => ?_
      clear aU
      refine ay cW ?_
      refine jo (C0 S₁ hp hd) fun ds m g => ?_
      refine ⟨"dict.get", fun Q' hq => getMethod_builtin (⟨_, g, rfl⟩) PySem.F.plainAttrs_dict PySem.F.slot_dict_get PySem.F.type_dict_get (fun a ea => ?_) hq, ?_⟩
      · cases ea; exact ⟨_, g, rfl⟩
      refine hb A env ls ρ σ1 _ _ ao s₁ _ hR c5 (F.mono E₁) S₁ h2 _ _ fun bB y s₂ E₂ S₂ cZ => ?_
      have hp2 := E₂.get hp
      clear h2
      split at h3
      · rename_i kd es ho
        split at h3
        · exact nomatch h3
        · rename_i z
          refine dY fun G hG => ?_
          obtain rfl := aX h3
          refine dF (S₂.obj l _ pr ho hp2 : OR X bB s₂.heap pr (.dict kd es)) fun _ D => ?_
          refine gC (D.N6 (Decidable.not_not.mp fun q => z (.inr q))) fun ys DY nd TY => ?_
          refine bK (EW (Decidable.not_not.mp fun q => z (.inl q))) fun jk bP => ?_
          clear z ho
          subst bP
          refine aA (pO cZ) fun ad bP ik => ?_
          clear cZ hd S hc e hb ha
          subst bP
          refine hG ?_
          refine call_meetsIn PySem.F.slot_dict_get DY.typeIs PySem.F.entry_dict_get (PySem.F.args_dict_get_2 _ _) (meetsH_dict_get (jc X.prog X.w) pr.1 ad (iW B S₂ hp2)) ⟨by show A.in1.units + 5 < cLine; have := hR.2.2; rw [Around.in1_units]; exact ltN [_, _, _] 1 (.add (.add vA (.num 1)) (.num 5)) vB [.l 1 (.add (.add vA (.mulL 20 vC)) (.num 40)) vB] aI this, jk, ys, ik, DY, ?_⟩
          have Fd := kL.find (j := jk) TY
          refine (hQ.oq e3) bB _ _ (E₁.trans E₂) (S₂.tok _) ?_
          cases hf : aQ es (pn jk) with
          | none => rw [Fd.2 hf]; simp only [Option.map_none, Option.getD_none, VR]
          | some u =>
            refine oA (Fd.1 u hf) fun a' x' h4 h5 => ?_
            rw [h4]; exact h5
      · exact nomatch h3
    · exact nomatch h3
  · exact nomatch he
theorem C6{prog:Program}{w:World}{A:Around}{s:Shared}{l:Addr}{az:Array Value}{x:Value}{k:Nat}{Q:Value→Shared→Prop}{E:Value→Shared→Prop}(ho:s.heap.get? l=some (j7 az k))(l9:az.size≤sizeLine)
  (hQ:∀h' k',h'.get? l=some (j7 (az.push x) k')→Heap.SameBut l s.heap h'→Q .none {s with heap:=h'}):
  wpAny (model prog w) A (call (.builtin "list.append") [.ref l,x]) Q E s:=by
 refine wpAny_call_entry slot_list_append (⟨_,ho,rfl⟩) entry_list_append ?_ (args_list_append _ _)
 refine(?_:wpAny _ _ (updateSeq l (·.push x)>>= λ_=>ret .none) _ _ s)
 refine au ?_
 refine wpAny_updateSeq ho rfl (aT ⟨.none,rfl,hQ _ (if(az.push x).size==az.size then k else k+1) ?_ (Heap.SameBut.update ..)⟩)
 exact Heap.get?_update_self (Obj.mapSeq (·.push x)) ho rfl
set_option tactic.hygienic true in
theorem vO (B : bE X mg mb) {a b : ME} (ha : SE X n xs a) (hb : SE X n xs b) : SE X n xs (.append a b) := by
  intro A env ls ρ σ v τ μ s e hR hc F S he Q E hQ
  refine bw he fun v1 σ1 h1 he => ?_
  dsimp only at he
  split at he
  · rename_i hd
    refine bw he fun v2 σ2 h2 he => ?_
    refine aA (map_some he) fun r h3 e3 => ?_
    refine kQ hc fun o at' p j q c1 c2 c3 c4 c5 => ?_
    have Hy := c1
    clear c1
    refine ay Hy ?_
    refine vM c3 (beq_iff_eq.mpr c2) (jZ c5 (cQ h2)) (ha A env ls ρ σ _ σ1 μ s _ hR c4 F S h1 _ _ fun ao x s₁ E₁ S₁ aU => ?_)
    intro pl
    unfold lO at h3
    clear h1
    split at h3
    · rename_i l _
      refine aA aU fun pr hp cW => ?_
      clear aU
      refine ay cW ?_
      refine jo (C5 S₁ hp hd) fun ds m g => ?_
      refine ⟨"list.append", fun Q' hq => getMethod_list_append g rfl rfl hq, ?_⟩
      refine hb A env ls ρ σ1 _ _ ao s₁ _ hR c5 (F.mono E₁) S₁ h2 _ _ fun bB y s₂ E₂ S₂ cZ => ?_
      have hp2 := E₂.get hp
      split at h3
      · rename_i vs ho
        refine fJ h3 fun aV h3 => ?_
        refine dY fun G hG => ?_
        obtain rfl := aX h3
        obtain ⟨e2, az, k, g2, hv⟩ : OR X bB s₂.heap pr (.list vs) := S₂.obj l _ pr ho hp2
        refine hG ?_
        have l9 : List.length _ = _ := hv.length
        simp only [gV] at l9
        refine C6 g2 (by rw [sizeLine_eq]; exact cP [_, _] 1 vA (.num 16777216) [.s 1 vB (.num 1000), .f 1 vB vA] aI aV l9) fun h' k' hl' jF => ?_
        obtain ⟨cu, E₃⟩ := S₂.turn (s' := { s₂ with heap := h' }) (o := .list (vs ++ [v2])) hp2 (fun b hb _ => jF.2 b hb) ⟨⟨_, hl'⟩, ⟨_, by rw [e2]; exact hl'⟩⟩
          (fun e => ⟨e2, _, _, hl', by
            refine ay Array.toList_push (?_)
            exact (bN.bI e _ _ hv).app (by simp only [bN]; exact ⟨_, _, rfl, VR.bI e _ _ cZ, rfl⟩)⟩)
        exact (hQ.oq e3) bB _ _ ((E₁.trans E₂).trans E₃) cu (by simp only [VR])
      · exact nomatch h3
    · exact nomatch h3
  · exact nomatch he
end
theorem insI_perm(x:Int):∀l:List Int,(insI x l).Perm (x::l)
 | []=> .refl _
 |y::r=>by
  unfold insI
  split
  ·exact .refl _
  ·exact((insI_perm x r).cons y).trans (.swap x y r)
theorem sortI_perm:∀l:List Int,(sortI l).Perm l
 | []=> .refl _
 |x::r=>(insI_perm x (sortI r)).trans ((sortI_perm r).cons x)
theorem iY(x:Int):∀l:List Int,l.Pairwise (· ≤ ·)→(insI x l).Pairwise (· ≤ ·)
 | [],_=> .cons (λ_ h=>nomatch h) .nil
 |y::r,h=>by
  unfold insI
  refine dF (List.pairwise_cons.mp h) λh1 h2=>?_
  split
  ·rename_i q
   refine .cons (λz hz=>?_) h
   rcases eH hz with rfl|hz
   ·exact q
   ·exact Int.le_trans q (h1 z hz)
  ·rename_i q
   refine .cons (λz hz=>?_) (iY x r h2)
   rcases eH ((insI_perm x r).mem_iff.mp hz) with rfl|hz
   ·exact(Int.le_of_lt (Int.not_le.mp q))
   ·exact h1 z hz
theorem g9:∀l:List Int,(sortI l).Pairwise (· ≤ ·)
 | []=> .nil
 |x::r=>iY x _ (g9 r)
section
variable {X:Ctx} {n:Nat} {xs:List Nat} {mg mb:Str→Option Value}
theorem bN.ofInts{μ:Mu}{h:Heap}:∀{ys:List Value}{ns:List Int},IntsAre ys ns→bN X μ h (ns.map .int) ys
 |_,_,.nil=>by simp[bN]
 |_,_,.cons k t r=>by simp only[fm,bN,VR];exact⟨_,_,rfl,⟨t,rfl⟩,bN.ofInts r⟩
theorem jG:∀{l:List V}{is:List Int},mw l=some is→l=is.map .int
 | [],is,h=>by simp only[mw,Option.some.injEq] at h;subst h;rfl
 |v::r,is,h=>by
  cases v<;>simp only[mw] at h<;>(try (cases h;done))
  refine aA (map_some h) λjs h1 cW=>?_
  refine uE cW ?_
  rw[jG h1];rfl
theorem vP{vr:V→Value→Prop}:∀{es:List (V × V)}{kvs:List (Int × Value)}{is:List Int},jb sP vr es kvs→es.map (·.1)=is.map .int→kvs.map (·.1)=is
 | [],kvs,is,g,h=>by
  simp only[jb] at g;subst g
  cases is with
  |nil=>rfl
  |cons=>simp at h
 |(a,u)::r,kvs,is,g,h=>by
  refine jb.eC g λj x q h1 h2 h3=>?_
  cases is with
  |nil=>simp at h
  |cons i is=>
   simp only[fm,List.cons.injEq] at h
   simp only[sP] at h1
   rw[h1] at h
   obtain⟨e1,e2⟩:=h
   cases e1
   exact ay fm (ay (vP h3 e2) (rfl))
theorem pR{prog:Program}{w:World}:∀{vs:List Value}{kvs:List (Int × Value)},vs.length=kvs.length→(∀(j:Nat)(v:Value),vs[j]? =some v→∃k x,kvs[j]? =some (k,x)∧(PySem.intKind prog w).is k v=true)→IntsAre vs (kvs.map (·.1))
 | [],[],_,_=> .nil
 | [],_::_,h,_=>by simp at h
 |_::_,[],h,_=>by simp at h
 |v::r,(k,x)::q,hl,h=>by
  refine oA (h 0 v rfl) λk' x' e hk=>?_
  simp only[List.getElem?_cons_zero,Option.some.injEq,Prod.mk.injEq] at e
  obtain⟨rfl,rfl⟩:=e
  obtain⟨t,rfl⟩:=Value.isInt_shape hk
  exact .cons _ _ (pR (by simpa using hl) λj u hu=>by simpa using h (j+1) u (‹_›))
set_option tactic.hygienic true in
theorem C7 (B : bE X mg mb) {A : Around} {c : Nat} (hR : Room A c) {μ : Mu} {σ : aa} {s : Shared} (S : St X μ σ s) {v r : V} {x : Value} (hx : VR X μ s.heap v x) (he : dJ .sorted v σ = some r)
    {Q : Value → Shared → Prop} {E : Value → Shared → Prop} (hQ : lE X μ s r σ Q) : wpAny (model X.prog X.w) A (call (.builtin "sorted") [x]) Q E s := by
  refine qW he fun l e0 he => ?_
  subst e0
  refine oB he fun k es h1 he => ?_
  refine fJ he fun hk he => ?_
  refine aA (map_some he) fun is h2 cW => ?_
  refine VR.qs hx fun p hp => ?_
  refine dF (S.obj l _ p h1 hp : OR X μ s.heap p (.dict k es)) fun _ D => ?_
  refine aA (D.Ld (by lia)) fun kvs D Pr => ?_
  obtain ⟨ep, hat⟩ := D.dictAt
  have aV := Pr.length
  have l9 : kvs.length ≤ sizeLine := by rw [sizeLine_eq]; exact cP [_, _] 1 vA (.num 16777216) [.s 1 vB (.num 64), .f 1 vB vA] aI hk.2 aV
  refine call_function_entry kind_sorted plain_sorted entry_sorted (args_sorted1 _) ?_
  refine au (m := checkCount "sorted" 1 1 _) (aT ?_)
  refine au (kdu_collect (A := A.in1) (kdl_dict (knd := PySem.intKind X.prog X.w) (kvs := kvs) (ep := ep) (iW B S hp)) hR.1 hat l9 fun h' tk acc hk hacc => ?_)
  have hl : acc.toList.length = kvs.length := by rw [gV]; exact hacc.1
  refine au (wpAny_newList ?_ (by rw [hl]; exact l9))
  have hI : IntsAre acc.toList (kvs.map (·.1)) := pR hl fun j v e => hacc.2 j v (by rw [← jP]; exact e)
  have ho : (h'.push { cls := .type "list", data := .seq acc.toList.toArray }).get? h'.objs.size = some (seqObj "list" acc.toList.toArray 0) := dz _ rfl
  refine au (cF (wpAny_call_entry PyProof.Rows.slot_list_sort ⟨_, ho, rfl⟩ PyProof.Rows.entry_list_sort (list_sort_tree (n := 0) (vs := acc.toList) ho hI (by exact (Nat.lt_of_le_of_lt (cG (Eq.trans hl (Eq.symm aV))) ‹k ≤ 1 ∧ es.length < 64›.2)) fun out ns' hI' rL jF => ⟨_, rfl, ?_⟩) (PyProof.Rows.args_list_sort _)))
  refine aT ⟨_, rfl, ?_⟩
  have hkeep : ∀ b o, s.heap.get? b = some o → (sortedHeap (h'.push { cls := .type "list", data := .seq acc.toList.toArray }) h'.objs.size acc.toList out).get? b = some o := fun b o e => by
    have e1 := hk b o e
    have l1 := dh e1
    exact (sortedHeap_old (Nat.ne_of_lt l1) (by rw [size_push']; exact Nat.lt_succ_of_lt l1)).trans (gX _ e1)
  obtain ⟨ee, he⟩ := sortedHeap_at (out := out) ho
  refine (hQ.ov cW) μ _ _ (cU.more hkeep) (S.more hkeep) ?_
  have hn : ns' = sortI is := lks_uniq (rL.trans ((by rw [vP Pr (jG h2)] : (kvs.map (·.1)).Perm is) |>.trans (sortI_perm is).symm)) jF (g9 is)
  clear jF rL
  refine uE hn ?_
  simp only [VR]
  refine ⟨h'.objs.size, out, ee, rfl, ?_, he, bN.ofInts hI'⟩
  rintro ⟨q, hq, e | e⟩
  · obtain ⟨⟨o, g⟩, _⟩ := S.alive hq
    have := dh (hk _ _ g); rw [← e] at this; exact Nat.lt_irrefl _ this
  · obtain ⟨_, ⟨o, g⟩⟩ := S.alive hq
    have := dh (hk _ _ g); rw [← e] at this; exact Nat.lt_irrefl _ this
theorem H9(B:bE X mg mb){A:Around}{c:Nat}(hR:Room A c){μ:Mu}{σ:aa}{s:Shared}(S:St X μ σ s){v r:V}{x:Value}(hx:VR X μ s.heap v x)(he:dJ .list v σ=some r)
  {Q:Value→Shared→Prop}{E:Value→Shared→Prop}(hQ:lE X μ s r σ Q):wpAny (model X.prog X.w) A (call (.type "list") [x]) Q E s:=by
 refine qW he λl e0 he=>?_
 subst e0
 refine oB he λk es h1 he=>fJ he λc RC=>VR.qs hx λp hp=>?_
 obtain⟨rfl,c2⟩:=c
 refine aA (fy.Ld (S.obj l _ p h1 hp).2 (.inl rfl)) λkvs D Pr=>bK D.dictAt λep hat=>?_
 have e:=List.eq_nil_of_length_eq_zero (Pr.length.symm.trans c2)
 refine kdl_call (kdl_dict (knd:=PySem.intKind X.prog X.w) (kvs:=kvs) (ep:=ep) (iW B S hp)) hR.1 hat (by rw[sizeLine_eq,e];simp) λh' tk acc' c' hk hS hacc=>?_
 refine(hQ.os RC) μ _ _ (cU.more hk) (S.more hk) ?_
 have:acc'= #[]:=Array.eq_empty_of_size_eq_zero (hacc.1.trans (aj List.length e))
 clear hacc
 subst this
 exact⟨_, #[],c',rfl,S.fresh,hS,rfl⟩
theorem yP(B:bE X mg mb)(b:Bi)(k:Nat){m:ME}(hm:SE X n xs m):SE X n xs (.bH b k m):=by
 intro A env ls ρ σ v τ μ s e hR hc F S he Q E hQ
 refine bM he λv1 h1 h2=>?_
 refine kO hc λx p1 a pos hd hn hg hc=>?_
 have hn':=hn
 subst hn'
 have jg:(iz b==("__debug__":Str))=false:=iQ hd
 have hg':env.kindOf (iz b)=some .globalImplicit:=cz hg
 refine(?_:wpAny _ _ (do callWith pos (←eval (.Name (iz b) p1) env) [] (backTo pos (starEach [a] env)) []) Q E s)
 refine au (Name_function_global F.kind hg' (loadGlobal_builtin (mg:=mg) (mb:=mb) (v:=BJ b) ?_ (B.bi b).1 ?_ (B.bi b).2 ?_) jg)
 ·rw[F.glob];exact B.g.keeps S.base
 ·rw[F.blt];exact B.b.keeps S.base
 ·refine ay (jZ hc (cQ h1)) ?_
  have go:∀{Q':Value→Shared→Prop},(∀ao x₁ s₁,cU μ ao s.heap s₁.heap→St X ao τ s₁→VR X ao s₁.heap v1 x₁→Q' x₁ s₁)→wpAny (model X.prog X.w) A (eval a env) Q' E s:=
   λh=>hm A env ls ρ σ v1 τ μ s a hR hc F S h1 _ _ h
  have fin:∀{ao:Mu}{s₁:Shared},cU μ ao s.heap s₁.heap→lE X ao s₁ v _ Q:=λE₁ bB x₂ s₂ E₂ S₂ cZ=>hQ bB x₂ s₂ (E₁.trans E₂) S₂ cZ
  cases b
  ·exact callWith_builtin1 (go λao x₁ s₁ E₁ S₁ aU=>Lv B S₁ aU h2 (fin E₁))
  ·exact callWith_type1 (go λao x₁ s₁ E₁ S₁ aU=>Fq B S₁ aU h2 (fin E₁))
  ·exact callWith_type1 (go λao x₁ s₁ E₁ S₁ aU=>Ft B hR S₁ aU h2 (fin E₁))
  ·exact fY h2
  ·exact callWith_type1 (go λao x₁ s₁ E₁ S₁ aU=>H9 B hR S₁ aU h2 (fin E₁))
  ·exact callWith_builtin1 (go λao x₁ s₁ E₁ S₁ aU=>C7 B hR S₁ aU h2 (fin E₁))
end
noncomputable def prs(env:PySem.Env)(pos:Pos):List (Option Expr)→List Expr→List (Sem Value × Sem Value)
 |some k::ks,v::vs=>(eval k env,do let x ←eval v env;standAt pos;pure x)::prs env pos ks vs
 |_,_=>[]
noncomputable def Fv:List (Value × Value)→List Value
 | []=>[]
 |(a,b)::r=>a::b::Fv r
theorem pS{K:Type} [DecidableEq K]{l:List (K × Value)}{k:K}{v:Value}(h:(l.map (·.1)).Nodup):((stored l k v).map (·.1)).Nodup:=by
 unfold stored
 split
 ·have:(l.map λkv=>if kv.1=k then(kv.1,v) else kv).map (·.1)=l.map (·.1):=by
   refine ay List.map_map (?_)
   refine List.map_congr_left λx _=>?_
   refine(?_:(if x.1=k then(x.1,v) else x).1=x.1)
   split<;>rfl
  rw[this];exact h
 ·rename_i q
  refine ay List.map_append (?_)
  refine List.nodup_append.mpr ⟨h,by simp,λa ha b hb e=>?_⟩
  simp only[fm,List.map_nil,List.mem_singleton] at hb
  subst e hb
  refine aA (eK ha) λx hx e=>?_
  exact q (List.any_eq_true.mpr ⟨x,hx,by simpa using e⟩)
section
variable {X:Ctx} {n:Nat} {xs:List Nat} {mg mb:Str→Option Value}
theorem Od{α:Type}{P:List α→Prop}(h0:P [])(h1:∀a,P [a])(h2:∀a b r,P r→P (a::b::r))(l:List α):P l:=by
 have key:P l∧∀a,P (a::l):=by
  induction l with
  |nil=>exact⟨h0,h1⟩
  |cons a r ih=>exact⟨ih.2 a,λb=>h2 b a r ih.1⟩
 exact key.1
theorem vQ{W:qU}{sc:Scope}{ls:List (Option Nat)}{a b:ME}{r:List ME}{ks:List (Option Expr)}{vs:List Expr}(h:yg W sc ls (a::b::r) ks vs=true):
  ∃k ks' v vs',ks=some k::ks'∧vs=v::vs'∧aJ W sc ls a k=true∧aJ W sc ls b v=true∧yg W sc ls r ks' vs'=true:=by
 rcases ks with _|⟨_|k,ks⟩
 ·exact nB h
 ·exact nB h
 ·cases vs with
  |nil=>exact nB h
  |cons v vs=>exact⟨k,ks,v,vs,rfl,rfl,lF h,gz h,aR h⟩
theorem tL{W:qU}{sc:Scope}{ls:List (Option Nat)}{ks:List (Option Expr)}{vs:List Expr}(h:yg W sc ls [] ks vs=true):ks=[]∧vs=[]:=by
 cases ks with
 |nil=>cases vs with
  |nil=>exact⟨rfl,rfl⟩
  |cons=>exact nB h
 |cons=>exact nB h
noncomputable def UE(W:qU)(sc:Scope)(ls:List (Option Nat))(env:PySem.Env)(pos:Pos)(ms:List ME):Prop:=∀(ks:List (Option Expr))(vs:List Expr),yg W sc ls ms ks vs=true→
  ((evalEachOpt ks env).zip ((evalEach vs env).map λv=>do let x ←v;standAt pos;pure x))=(prs env pos ks vs).map (λp=>(some p.1,p.2))∧(prs env pos ks vs).length=ks.length∧(ms≠[]→prs env pos ks vs≠[])
theorem C8{W:qU}{sc:Scope}{ls:List (Option Nat)}{env:PySem.Env}{pos:Pos}(ms:List ME):UE W sc ls env pos ms:=
 Od (P:=UE W sc ls env pos) (λks vs h=>dF (tL h) λe1 e2=>ay e1 (ay e2 ⟨rfl,rfl,λq=>absurd rfl q⟩)) (λ_ _ _ h=>nB h)
  (λa b r ih ks vs h=>Es (vQ h) λk ks' v vs' e1 e2 _ _ h3=>ay e1 (ay e2 (gj (ih ks' vs' h3) λi1 i2 _=>⟨aj (List.cons _) i1,aj Nat.succ i2,λ_=>nofun⟩))) ms
noncomputable def SD(X:Ctx)(n:Nat)(xs:List Nat)(pos:Pos)(ms:List ME):Prop:=∀(A:Around)(env:PySem.Env) ls ρ σ vs τ μ s ks es,Room A n→yg ⟨X.NM,xs⟩ env.scope ls ms ks es=true→gP X env ls ρ μ s.heap→St X μ σ s→
  jU (af P0 n) ρ ms σ=some (vs,τ)→∀(Q:List (Value × Value)→Shared→Prop) E,(∀bA ps s',cU μ bA s.heap s'.heap→St X bA τ s'→bN X bA s'.heap vs (Fv ps)→Q ps s')→
  wpAny (model X.prog X.w) A (evalPairs (prs env pos ks es)) Q E s
theorem yQ{pos:Pos}(ms:List ME):(∀m∈ms,SE X n xs m)→SD X n xs pos ms:=by
 refine Od (P:=λms=>(∀m∈ms,SE X n xs m)→SD X n xs pos ms) ?_ (λ_ _ A env ls ρ σ vs τ μ s ks es hR hc=>nB hc) (λa b r ih=>?_) ms
 ·intro _ A env ls ρ σ vs τ μ s ks es hR hc F S he Q E hQ
  have e:=Prod.mk.inj (aX he)
  exact dF (tL hc) λe1 e2=>ay e1 (ay e2 (evalPairs_nil (hQ μ [] s .refl (e.2▸S) (e.1▸rfl))))
 ·intro hm A env ls ρ σ vs τ μ s ks es hR hc F S he Q E hQ
  refine Es (vQ hc) λk ks' v vs' CP HW c1 c2 c3=>?_
  refine ay CP (ay HW ?_)
  refine bw he λv1 σ1 h1 he=>mM he λws he e3=>bw he λv2 σ2 h2 he=>mM he λus h3 e4=>?_
  refine evalPairs_cons (hm a (.head _) A env ls ρ σ v1 σ1 μ s k hR c1 F S h1 _ _ λao x s₁ E₁ S₁ aU=>?_)
  refine au (hm b (.tail _ (.head _)) A env ls ρ σ1 v2 σ2 ao s₁ v hR c2 (F.mono E₁) S₁ h2 _ _ λbB y s₂ E₂ S₂ cZ=>au (wpAny_standAt (aT ?_)))
  refine ih (λm hmem=>hm m (.tail _ (.tail _ hmem))) A env ls ρ σ2 us _ bB s₂ ks' vs' hR c3 ((F.mono E₁).mono E₂) S₂ h3 _ E λdP ps s₃ E₃ cu kg=>?_
  exact hQ dP ((x,y)::ps) s₃ ((E₁.trans E₂).trans E₃) cu (e3▸e4▸⟨x,_,rfl,(aU.mono E₂).mono E₃,y,_,rfl,cZ.mono E₃,kg⟩)
theorem bN.W8{μ:Mu}{h:Heap}{vs:List V}{P:List V→Prop}(g:bN X μ h vs [])(k:P []):P vs:=by
 cases vs with
 |nil=>exact k
 |cons v r=>exact fj g λ_ _ e _ _=>nomatch e
theorem bN.UG{μ:Mu}{h:Heap}{vs:List V}{y:Value}{q:List Value}{P:List V→Prop}(g:bN X μ h vs (y::q))(k:∀v r,VR X μ h v y→bN X μ h r q→P (v::r)):P vs:=by
 cases vs with
 |nil=>exact nomatch (g:y::q=[])
 |cons v r=>exact fj g λy' q' e a b=>k v r ((List.cons.inj e).1▸a) ((List.cons.inj e).2▸b)
theorem Av{K:Type} [DecidableEq K]{knd:KeyKind X.prog X.w K}{rel:V→K→Prop}{nk:Nat}{μ:Mu}{h:Heap}(inj:∀k j,rel k j→∀k' j',rel k' j'→(k'=k↔j'=j))(hk:∀k y,kk k=nk→VR X μ h k y→∃j,rel k j∧knd.is j y=true)
  (ps:List (Value × Value)):∀(vs:List V)(d:List (V × V))(acc:List (K × Value))(o:O),dictOf.lP nk vs d=some o→bN X μ h vs (Fv ps)→jb rel (VR X μ h) d acc→(acc.map (·.1)).Nodup→
   ∃d' kvs,o=.dict nk d'∧Carries knd ps kvs∧jb rel (VR X μ h) d' (merged acc kvs):=by
 induction ps with
 |nil=>
  intro vs d acc o he hv hp hn
  exact bN.W8 (P:=λvs=>dictOf.lP nk vs d=some o→_) hv (λhe=>⟨d,[],(aX he).symm,trivial,hp⟩) he
 |cons p r ih=>
  intro vs d acc o he hv hp hn
  refine bN.UG (P:=λvs=>dictOf.lP nk vs d=some o→_) hv (λv1 r1 g1 hv=>bN.UG (P:=λr1=>dictOf.lP nk (v1::r1) d=some o→_) hv λv2 r2 g2 hv he=>?_) he
  refine fJ he λhkk he=>aA (hk v1 p.1 hkk g1) λj hj hi=>?_
  exact fj (ih r2 _ _ o he hv (jb.put hj (inj v1 j hj) g2 hp hn) (pS hn)) λd' kvs e' hc hr=>⟨d',(j,p.2)::kvs,e',⟨hi,rfl,hc⟩,hr⟩
theorem cU.filled{μ ao:Mu}{h h₁ h':Heap}{ob:Obj}(E₁:cU μ ao (h.push ob) h₁)(hs:Heap.SameBut h.objs.size h₁ h')(al:∃o,h'.get? h.objs.size=some o)(hf:¬bL μ h.objs.size):cU μ (ao++[(h.objs.size,h.objs.size)]) h h':=by
 refine aA E₁.pre λt bP ht=>?_
 refine ay bP ?_
 have dead:∀b,(h.push ob).get? b=none→h.get? b=none:=λb q=>by
  cases e:h.get? b with
  |none=>rfl
  |some o=>cases(gX ob e).symm.trans q
 refine⟨⟨t++[(h.objs.size,h.objs.size)],List.append_assoc ..,λp hp=>?_⟩,λb o n g=>?_,λb o n g=>?_⟩
 ·rcases List.mem_append.mp hp with q|q
  ·exact⟨dead _ (ht p q).1,dead _ (ht p q).2⟩
  ·simp at q;subst q
   exact⟨kC (bS _),kC (bS _)⟩
 ·exact(hs.2 b (Nat.ne_of_lt (dh g))).trans (E₁.keep b o n (gX ob g))
 ·refine bK (E₁.live b o n (gX ob g)) λo' g'=>?_
  exact⟨o',(hs.2 b (Nat.ne_of_lt (dh g))).trans g'⟩
theorem St.Aw{μ:Mu}{σ:aa}{s:Shared}(S:St X μ σ s):X.h0.get? s.heap.objs.size=none∧s.heap.objs.size≠sysModules:=by
 constructor
 ·cases e:X.h0.get? s.heap.objs.size with
  |none=>rfl
  |some o=>exact absurd (dh (S.base _ _ e)) (Nat.lt_irrefl _)
 ·refine bK S.main λo e=>?_
  exact Nat.ne_of_gt (Nat.lt_trans (by decide:sysModules<mainGlobals) (dh (S.base _ _ e)))
theorem Ax{vs:List V}{o:O}{G:Prop}(h:dictOf vs=some o)(bT:vs.length≠0)(k1:dictOf.lP 1 vs []=some o→G)(k2:dictOf.lP 2 vs []=some o→G):G:=by
 rcases vs with _|⟨k,_|⟨w,vs⟩⟩
 ·exact absurd rfl bT
 ·exact fY h
 ·refine CH h λz h=>?_
  rcases yI k with q|q|q|q
  ·exact absurd (.inl q) z
  ·exact k1 ((aC q).trans (q▸h))
  ·exact k2 ((aC q).trans (q▸h))
  ·exact absurd (.inr q) z
theorem BX(B:bE X mg mb){ms:List ME}(hm:∀m∈ms,SE X n xs m):SE X n xs (.dict ms):=by
 intro A env ls ρ σ v τ μ s e hR hc F S he Q E hQ
 refine bw he λvs σ1 h1 he=>?_
 refine aA (map_some he) λo h2 e2=>?_
 refine pL hc λks es pos aV hc=>?_
 cases ms with
 |nil=>
  have e1:=Prod.mk.inj (aX h1)
  have yR:=aX ((aj dictOf e1.1).trans h2)
  refine dF (tL hc) λf1 f2=>ay f1 (ay f2 (wpAny_Dict_empty ?_))
  refine dF (S.cell (s':={s with heap:=s.heap.push {cls:= .type "dict",data:= .dict #[]}}) (p:=(s.heap.objs.size,s.heap.objs.size)) (o:= .dict 0 []) (λb x g=>gX _ g) (bS _) (bS _)
   ⟨rfl,rfl,0,dz _ rfl⟩) λS₂ E₂=>?_
  exact(hQ.oq ((congr (aj (λz(t:aa)=>(V.loc z,t)) (aj List.length e1.2)) (congr (aj (· ++ ·) e1.2) (aj (λz=>[z]) yR))).trans e2)) _ _ _ E₂ S₂ ⟨(s.heap.objs.size,s.heap.objs.size),by rw[←S.len];simp,rfl⟩
 |cons m r=>
  refine gj (C8 (env:=env) (pos:=pos) _ ks es hc) λsh shl W9=>?_
  have go:∀{K:Type} [DecidableEq K](knd:KeyKind X.prog X.w K)(rel:V→K→Prop)(nk:Nat),(∀k j,rel k j→∀k' j',rel k' j'→(k'=k↔j'=j))→
    (∀(μ:Mu)(h:Heap) k y,kk k=nk→VR X μ h k y→∃j,rel k j∧knd.is j y=true)→dictOf.lP nk vs []=some o→
    (∀(μ:Mu)(h:Heap)(a:Addr)(es:List (V × V))(kvs:List (K × Value)),h.DictOf knd a kvs→jb rel (VR X μ h) es kvs→fy X μ h a nk es)→
    wpAny (model X.prog X.w) A (eval (.Dict ks es pos) env) Q E s:=by
   intro K _ knd rel nk inj hk hgo hD
   refine wpAny_Dict_pairs (knd:=knd) sh (W9 (by simp)) (by rw[shl];exact aV) ?_
   refine yQ (m::r) hm A env ls ρ σ vs σ1 μ {s with heap:=s.heap.push {cls:= .type "dict",data:= .dict #[]}} ks es hR hc (F.mono (cU.push _)) (S.push _ _) h1 _ E λao ps s₁ E₁ S₁ aU=>?_
   have hnew:(s.heap.push {cls:= .type "dict",data:= .dict #[]}).get? s.heap.objs.size=some (gF #[] 0):=dz _ rfl
   have hat:s₁.heap.get? s.heap.objs.size=some (gF #[] 0):=E₁.keep _ _ S.fresh hnew
   have hun:¬bL ao s.heap.objs.size:=E₁.eV S.fresh hnew
   refine fj (Av (knd:=knd) inj (hk ao s₁.heap) ps vs [] [] o hgo aU (rfl) List.nodup_nil) λd' kvs cW RD Oe=>?_
   clear hgo
   subst cW
   refine⟨kvs,RD,⟨_, #[],0,hat,⟨rfl,rfl,rfl⟩,rfl,λe he=>absurd he (Array.not_mem_empty e),.nil,List.nodup_nil⟩,λh' jg jF=>?_⟩
   have EV:gG ao (ao++[(s.heap.objs.size,s.heap.objs.size)]) s₁.heap h':=by
    exact⟨⟨_,rfl,all1 λo ho=>ho.elim (λq=>sU hat q▸rfl) λq=>sU hat q▸rfl⟩,λb o nb g nd=>(jF.2 b λq=>Bool.false_ne_true ((aj fc (sU hat (q▸g)):fc (gF #[] 0)=_).trans nd)).trans g⟩
   have S₂:=S₁.fill (s':={s₁ with heap:=h',toks:=s₁.toks+ps.length}) (p:=(s.heap.objs.size,s.heap.objs.size)) (o:= .dict nk d') hun hun S.Aw.1 S.Aw.1 S.Aw.2 (λb hb _=>jF.2 b hb) EV
    ⟨rfl,hD _ _ _ _ _ jg (Oe.mono λv x=>VR.bI EV v x)⟩
   refine(hQ.oq e2) _ _ _ (cU.filled E₁ jF (jo (sQ jg) λ_ _ g=>⟨_,g⟩) S.fresh) S₂ ?_
   exact⟨(s.heap.objs.size,s.heap.objs.size),by rw[←S₁.len];simp,rfl⟩
  refine Ax h2 (by rw[ju h1];nofun) (λh2=>?_) λh2=>?_
  ·refine go (PySem.intKind X.prog X.w) sP 1 (λk j h=>ay (show k=.int j from h) (jD j)) (λμ h k y hk hv=>?_) h2 (λμ h a es kvs hd hp=>⟨kvs,hd,hp⟩)
   exact bK (tC hk) λj e=>by subst e;exact VR.gf hv λt=>⟨j,rfl,beq_self_eq_true j⟩
  ·refine go (PySem.strKind X.prog X.w) (rK X) 2 (λk j h=>gC h λa ha e2 e3=>ay e2 (uE e3 (iV B ha))) (λμ h k y hk hv=>?_) h2 (λμ h a es kvs hd hp=>⟨kvs,hd,hp⟩)
   exact bK (tD hk) λj e=>by subst e;exact VR.EH hv λhj t=>⟨X.NM j,⟨j,hj,rfl,rfl⟩,beq_self_eq_true _⟩
end
noncomputable def xg(env:PySem.Env):List (Str × NameKind)→List (Str × Addr)→List (Str × Addr)
 | [],cs=>cs
 |(n,k)::r,cs=>if(k== .free)=true then(match env.cells.lookup n with|some c=>xg env r ((n,c)::cs)|none=>[]) else xg env r cs
theorem Hz{K:Type} [BEq K]{α:Type}{x a:K}{b:α}{r:List (K × α)}(e:(x==a)=true):((a,b)::r).lookup x=some b:=by rw[List.lookup_cons,e]
theorem D9{K:Type} [BEq K]{α:Type}{x a:K}{b:α}{r:List (K × α)}(e:(x==a)=false):((a,b)::r).lookup x=r.lookup x:=by rw[List.lookup_cons,e]
section
variable {env:PySem.Env} {r:List (Str × NameKind)} {cs:List (Str × Addr)} {n x:Str} {k:NameKind} {c:Addr}
theorem yS(e:env.cells.lookup n=some c):xg env ((n,.free)::r) cs=xg env r ((n,c)::cs):=
 (aj (λo:Option Addr=>match o with|some c=>xg env r ((n,c)::cs)|none=>[]) e:(match env.cells.lookup n with|some c=>xg env r ((n,c)::cs)|none=>[])=_)
theorem vR(h:¬(k== .free)=true):xg env ((n,k)::r) cs=xg env r cs:=aB h
theorem Fw{names:List (Str × NameKind)}:∀{cs:List (Str × Addr)},(∀y∈names,y.2=.free→∃c,env.cells.lookup y.1=some c)→
  (∀x c,cs.lookup x=some c→env.cells.lookup x=some c)→(∀x c,(xg env names cs).lookup x=some c→env.cells.lookup x=some c)∧(∀x,((cs.lookup x).isSome=true∨(x,NameKind.free)∈names)→((xg env names cs).lookup x).isSome=true):=by
 induction names with
 |nil=>exact λ{cs} _ hc=>⟨hc,λx h=>h.elim id λq=>absurd q iO⟩
 |cons p r ih=>
  intro cs hf hc
  obtain⟨n,k⟩:=p
  by_cases hk:(k== .free)=true
  ·obtain rfl:=eX hk
   refine bK (hf (n,.free) (.head _) rfl) λc e=>ay (yS e) (dF (ih (cs:=(n,c)::cs) (λy hy=>hf y (.tail _ hy)) λx d h=>?_) λi1 i2=>⟨i1,λx h=>i2 x (h.elim (λh=>?_) λh=>(eH h).elim (λh=>?_) .inr)⟩)
   ·cases q:x==n with
    |true=>exact eX q▸e.trans ((Hz q).symm.trans h)
    |false=>exact hc x d ((D9 q).symm.trans h)
   ·refine .inl ?_
    cases q:x==n with
    |true=>exact ay (Hz q) rfl
    |false=>exact ay (D9 q) h
   ·exact .inl (ay (Hz (beq_iff_eq.mpr (aj Prod.fst h))) rfl)
  ·exact ay (vR hk) (dF (ih (λy hy=>hf y (.tail _ hy)) hc) λi1 i2=>⟨i1,λx h=>i2 x (h.imp id λq=>(eH q).resolve_left λz=>hk (beq_iff_eq.mpr (aj Prod.snd z).symm))⟩)
theorem C9(f:(Str × NameKind)→List (Str × Addr)→Sem (ForInStep (List (Str × Addr))))
  (hf:∀n k cs,f (n,k) cs=if(k== .free)=true then(cellOf env n>>= λc=>pure (.yield ((n,c)::cs))) else pure (.yield cs))
  {names:List (Str × NameKind)}:∀{cs:List (Str × Addr)},(∀y∈names,y.2=.free→∃c,env.cells.lookup y.1=some c)→forIn names cs f=pure (xg env names cs):=by
 induction names with
 |nil=>exact λ{cs} _=>List.forIn_nil
 |cons p r ih=>
  intro cs h
  obtain⟨n,k⟩:=p
  rw[List.forIn_cons,hf]
  by_cases hk:(k== .free)=true
  ·obtain rfl:=eX hk
   refine bK (h (n,.free) (.head _) rfl) λc e=>?_
   rw[aC hk,yS e,show cellOf env n=pure c by unfold cellOf;rw[e],pure_bind,pure_bind]
   exact ih λy hy=>h y (.tail _ hy)
  ·rw[aB hk,vR hk,pure_bind]
   exact ih λy hy=>h y (.tail _ hy)
theorem Ay{scope:Scope}(h:∀y∈scope.names,y.2=.free→∃c,env.cells.lookup y.1=some c):closureFor scope env=pure (xg env scope.names []):=
 (aj (λm:Sem (List (Str × Addr))=>m>>= λcs=>pure cs) (C9 _ (λ_ _ _=>rfl) (names:=scope.names) (cs:=[]) h)).trans rfl
theorem jH{l:List (Str × NameKind)}:l.lookup x=some k→(x,k)∈l:=by
 induction l with
 |nil=>exact λh=>fY h
 |cons p r ih=>
  intro h
  obtain⟨n,j⟩:=p
  cases q:x==n with
  |true=>exact List.mem_cons.mpr (.inl (Prod.ext (eX q) (aX ((Hz q).symm.trans h)).symm))
  |false=>exact .tail _ (ih ((D9 q).symm.trans h))
noncomputable def n7(env:PySem.Env)(p:Str × NameKind):Str × NameKind:=if(p.2==NameKind.free&&env.scope.kind== .function&&env.kindOf p.1==some .cell) then(p.1,NameKind.cell) else p
theorem jh(hk:env.scope.kind=.function)(hx:env.kindOf x=some .cell){names:List (Str × NameKind)}:names.lookup x=some .free→(names.map (n7 env)).lookup x=some .cell:=by
 induction names with
 |nil=>exact λh=>fY h
 |cons p r ih=>
  intro h
  obtain⟨n,k⟩:=p
  cases q:x==n with
  |true=>
   obtain rfl:=eX q
   obtain rfl:=aX ((Hz q).symm.trans h)
   refine(?_:List.lookup x (n7 env (x,.free)::_)=_)
   rw[show n7 env (x,.free)=(x,.cell) from aC (by rw[hk,hx];rfl)]
   exact Hz q
  |false=>
   refine(?_:List.lookup x (n7 env (n,k)::_)=_)
   have e:∀j,((n,j)::r.map (n7 env)).lookup x=some .cell:=λj=>(D9 q).trans (ih ((D9 q).symm.trans h))
   unfold n7
   split<;>exact e _
end
section
variable {X:Ctx} {n:Nat} {xs:List Nat} {mg mb:Str→Option Value}
theorem Xa{a b c:Nat}(h:a+1+b=c):a+(b+1)=c:=(Nat.add_right_comm a 1 b).symm.trans h
theorem ny{NM:Nat→Str}{sc:Scope}{xs:List Nat}{x m:Nat}{ls:List (Option Nat)}:∀{i k:Nat},(qk NM sc xs x k ls)[i]? =some (some m)→
  (k+i=x∧xs[x]? =some m)∨(k+i≠x∧ls[i]? =some (some m)∧mz sc (NM m)=true):=by
 induction ls with
 |nil=>exact λ{i k} h=>fY (List.getElem?_nil.symm.trans h)
 |cons l r ih=>
  intro i k h
  cases i with
  |zero=>
   have h:=aX h
   by_cases q:k=x
   ·exact .inl ⟨q,(aC q).symm.trans h⟩
   ·refine .inr ⟨q,?_⟩
    have h:=(aB q).symm.trans h
    cases l with
    |none=>exact fY h
    |some a=>exact fJ h λc h=>aX h▸⟨rfl,c⟩
  |succ i=>exact(ih (k:=k+1) h).imp (λz=>⟨Xa z.1,z.2⟩) λz=>⟨λe=>z.1 ((Nat.add_right_comm k 1 i).trans e),z.2⟩
theorem xh{env:PySem.Env}{y:Str}{names:List (Str × NameKind)}:(∀z∈names,z.2≠ .cell)→(names.map (n7 env)).lookup y=some .cell→(y,NameKind.free)∈names:=by
 induction names with
 |nil=>exact λ_ h=>fY h
 |cons p r ih=>
  intro hn h
  obtain⟨n,k⟩:=p
  have h:List.lookup y (n7 env (n,k)::r.map (n7 env))=some .cell:=h
  unfold n7 at h
  cases q:y==n with
  |true=>
   obtain rfl:=eX q
   split at h
   ·rename_i z
    exact List.mem_cons.mpr (.inl (Prod.ext rfl (eX (lF z)).symm))
   ·exact absurd (aX ((Hz q).symm.trans h)) (hn _ (.head _))
  |false=>
   refine .tail _ (ih (λz hz=>hn z (.tail _ hz)) ?_)
   split at h<;>exact(D9 q).symm.trans h
theorem tM{sc cs:Scope}(h:gZ sc cs=true):cs.kind=.function∧(∀y∈cs.names,y.2≠ .cell)∧∀y∈cs.names,y.2=.free→sc.names.lookup y.1=some .cell:=
 have ha:=iP (aR h)
 ⟨eX (lF h),λy hy=>bne_iff_ne.mp (lF (ha y hy)),λy hy e=>eX (aL ((Bool.or_eq_true_iff.mp (aR (ha y hy))).resolve_left λz=>bne_iff_ne.mp z e))⟩
theorem Lw{ρ:Env}{x i:Nat}{u v:V}(e:x=i)(h:(ρ.set x (some u))[i]? =some (some v)):u=v:=by
 subst e
 have hl:=iN (eY h).1 List.length_set
 exact aX (aX ((List.getElem?_set_self hl).symm.trans h))
theorem gP.comp{env:PySem.Env}{ls:List (Option Nat)}{ρ:Env}{μ:Mu}{h h':Heap}(F:gP X env ls ρ μ h){cs:Scope}{x:Nat}{t:Str}{C:Addr}{m:Str→Option Value}{u:V}{y:Value}{nx:Nat}
  (hok:gZ env.scope cs=true)(hn:xs[x]? =some nx)(lU:nx<aO.length)(ht:X.NM nx=t)(hl:cs.names.lookup t=some .local)
  (hC:¬bL μ C)(Xb:X.h0.get? C=none)(hm:h'.Ns C m)(hv:m t=some y)(hu:VR X μ h' u y)(keep:∀b o,h.get? b=some o→h'.get? b=some o):
  gP X (compEnvC cs (xg env cs.names []) C env) (qk X.NM cs xs x 0 ls) (ρ.set x (some u)) μ h':=by
 subst ht
 refine gj (tM hok) λhk hcell hfree=>?_
 refine dF (Fw (env:=env) (names:=cs.names) (cs:=[]) (λy hy e=>F.cells _ (hfree y hy e)) λx c q=>fY q) λRE Of=>?_
 have BY:∀a,mz cs (X.NM a)=true→a≠nx:=λa ha e=>NameKind.noConfusion (sU hl (e▸eX ha))
 refine⟨hC,Xb,hk,F.glob,F.blt,λy hy=>Option.isSome_iff_exists.mp (Of y (.inr (xh hcell hy))),λi j a hi hj=>?_,λi a hi=>?_,m,hm,λi a v hi hv'=>?_⟩
 ·rcases ny hi with e|e<;>rcases ny hj with f|f
  ·exact Nat.add_left_cancel (e.1.trans f.1.symm)
  ·exact absurd (sU e.2 hn) (BY _ f.2.2)
  ·exact absurd (sU f.2 hn) (BY _ e.2.2)
  ·exact F.nodup i j a e.2.1 f.2.1
 ·exact(ny hi).elim (λe=>sU hn e.2▸lU) λe=>F.lt i a e.2.1
 ·rcases ny hi with e|e
  ·obtain rfl:=sU hn e.2
   exact .inl ⟨lookup_relabel_local hl,y,hv,Lw (e.1.symm.trans (Nat.zero_add i)) hv'▸hu⟩
  ·have hv':=(List.getElem?_set_ne λz=>e.1 ((Nat.zero_add i).trans z.symm)).symm.trans hv'
   have hf:=eX e.2.2
   have hmem:=jH hf
   have hc:=hfree _ hmem rfl
   refine .inr (aA F.ns λm0 _ hv0=>(hv0 i a v e.2.1 hv').elim (λq=>NameKind.noConfusion (sU hc q.1)) λq=>nP q.2 λc z hc' no ic w=>?_)
   exact bK (Option.isSome_iff_exists.mp (Of (X.NM a) (.inr hmem))) λc' e'=>⟨.inl (jh F.kind hc hf),c,z,sU (RE _ _ e') hc'▸e',no,ic.keeps keep,w.mono (cU.more keep)⟩
theorem Dc{ρ:Env}{k:Nat}{i:Int}{G:Prop}(h:uX ρ (.var k)=some i)(q:ρ[k]? =some (some (.int i))→G):G:=q ((λo h=>by
 rcases o with _|(_|v)<;>first|exact fY h|skip
 cases v<;>first|exact fY h|exact aj (λz=>some (some (V.int z))) (aX h):∀o:Option (Option V),(match o with|some (some (.int i))=>some i|_=>none)=some i→o=some (some (.int i))) _ h)
theorem SP(sc:Scope):∀(m:ME)(A:Around)(env:PySem.Env)(ls:List (Option Nat))(ρ:Env)(μ:Mu)(s:Shared)(e:Expr)(i:Int),uX ρ m=some i→aJ ⟨X.NM,xs⟩ sc ls m e=true→gP X env ls ρ μ s.heap→
  ∀(Q:Value→Shared→Prop) E,(∀t k,Q (.int i t) {s with toks:=k})→wpAny (model X.prog X.w) A (eval e env) Q E s:=by
 intro m
 induction m using ME.rec (motive_2:=λ_=>True) with
 |lit v=>
  intro A env ls ρ μ s e i he hc F Q E hQ
  cases v<;>first|exact fY he|skip
  obtain rfl:=aX he
  refine qw hc λc k p hc=>?_
  cases c<;>first|exact nB hc|skip
  refine ay ((cz hc).symm) ?_
  exact wpAny_Constant_int (hQ _ _)
 |var k=>
  intro A env ls ρ μ s e i he hc F Q E hQ
  refine Dc he λhv=>?_
  refine qx hc λx p hd hc=>?_
  refine K7 hc λk' hk hc=>?_
  have hx:X.NM k'=x:=cz hc
  subst hx
  refine aA F.ns λm hn hm=>?_
  have jg:(X.NM k'==("__debug__":Str))=false:=iQ hd
  rcases hm k k' _ hk hv with⟨q,y,z,w⟩|⟨q,c,y,hcl,no,ic,w⟩
  ·simp only[VR] at w
   obtain⟨t,rfl⟩:=w
   exact wpAny_Name (wpAny_loadName_local F.kind q hn z (hQ _ _)) jg
  ·simp only[VR] at w
   obtain⟨t,rfl⟩:=w
   rcases q with q|⟨q,hcd⟩
   ·exact wpAny_Name (wpAny_loadName_cell F.kind q hcl ic (hQ _ _)) jg
   ·exact wpAny_Name (wpAny_loadName_free F.kind q hcl ic (hQ _ _) (iQ hcd)) jg
 |bin op a b Xc Xd=>
  intro A env ls ρ μ s e i he hc F Q E hQ
  refine aA (bind_some he) λx h1 he=>?_
  refine aA (bind_some he) λy h2 he=>?_
  refine qy hc λ_ _ _ _ c1 c2 c3=>?_
  ·refine wpAny_BinOp (Xc A env ls ρ μ s _ x h1 c2 F _ _ λt k=>?_)
   refine Xd A env ls ρ μ {s with toks:=k} _ y h2 c3 F _ _ λt' k'=>?_
   exact BQ c1 he λtk=>hQ _ _
 |_=>first|trivial|(intro A env ls ρ μ s e i he;exact fY he)
theorem iB{W:qU}{sc:Scope}{ls:List (Option Nat)}{m:ME}{e:Expr}(h:aJ W sc ls m e=true)(hn:m≠ .never)(env:PySem.Env)(x:Value):foldedSetIterable e env x=pure x:=by
 cases m
 ·exact qw h λ_ _ _ _=>rfl
 ·exact qx h λ_ _ _ _=>rfl
 ·exact jW h λ_ _ _ _ _ _=>rfl
 ·exact pG h λ_ _ _ _ _ _ _=>rfl
 ·exact pH h λ_ _ _ _ _=>rfl
 ·exact mK h λ_ _ _ _ _ _ _ _=>rfl
 ·exact kM h λ_ _ _ _ _ _=>rfl
 ·exact kN h λ_ _ _ _ _ _=>rfl
 ·exact jX h λ_ _ _ _ _ _=>rfl
 ·exact kO h λ_ _ _ _ _ _ _ _=>rfl
 ·exact pI h λ_ _ _ _ _ _ _ _ _ _=>rfl
 ·exact kQ h λ_ _ _ _ _ _ _ _ _ _=>rfl
 ·exact qy h λ_ _ _ _ _ _ _=>rfl
 ·exact sV h λ_ _ _=>rfl
 ·exact sW h λ_ _ _=>rfl
 ·exact sX h λ_ _ _=>rfl
 ·exact yq h λ_ _ _=>rfl
 ·exact sY h λ_ _ _ _ _ _ _=>rfl
 ·exact pJ h λ_ _ _ _ _ _ _ _ _ _ _ _=>rfl
 ·exact sZ h λ_ _ _ _ _ _ _=>rfl
 ·exact s7 h λ_ _ _ _ _=>rfl
 ·exact s8 h λ_ _ _ _=>rfl
 ·exact pK h λ_ _ _ _=>rfl
 ·exact pL h λ_ _ _ _ _=>rfl
 ·exact mL h λ_ _ _ _ _ _ _ _ _ _ _=>rfl
 ·exact mO h λ_ _ _ _ _ _ _ _ _ _=>rfl
 ·exact absurd rfl hn
theorem BZ(i k n:Nat):k<n→(upTo i n)[k]? =some (.int ((i+k:Nat):Int)):=by
 induction n generalizing i k with
 |zero=>exact λh=>absurd h (Nat.not_lt_zero k)
 |succ n ih=>exact k.casesOn (λ_=>rfl) λk h=>(ih (i+1) k (Nat.lt_of_succ_lt_succ h)).trans (aj (λz:Nat=>some (V.int z)) (Nat.add_right_comm i 1 k))
theorem rm(i n:Nat):(upTo i n).length=n:=by
 induction n generalizing i with
 |zero=>rfl
 |succ n ih=>exact aj Nat.succ (ih (i+1))
theorem Fx{ρ:Env}{e:ME}{x:Nat}{us:List V}:∀{l:List Int},Ei ρ e x us=some l→l.length=us.length∧∀(k:Nat) u,us[k]? =some u→∃i,l[k]? =some i∧uX (ρ.set x (some u)) e=some i:=by
 induction us with
 |nil=>exact λ{l} h=>aX h▸⟨rfl,λk u q=>fY (List.getElem?_nil.symm.trans q)⟩
 |cons u r ih=>
  exact λ{l} h=>aA (bind_some h) λi h1 h=>aA (map_some h) λl' h2 e2=>uE e2 (dF (ih h2) λa b=>⟨aj Nat.succ a,λk v=>k.casesOn (λq=>⟨i,rfl,aX q▸h1⟩) λk q=>b k v q⟩)
theorem jI{sc cs:Scope}(h:gZ sc cs=true):(∀y∈cs.names,y.2≠ .cell)∧cs.kind=.function∧(∀y∈cs.names,y.2=.local→cs.names.lookup y.1=some .local)∧(∀y∈cs.names,y.2=.free→sc.names.lookup y.1=some .cell):=
 gj (tM h) λa b c=>⟨b,a,λy hy e=>eX ((Bool.or_eq_true_iff.mp (gz (iP (aR h) y hy))).resolve_left λz=>bne_iff_ne.mp z e),c⟩
theorem gP.closure{env:PySem.Env}{ls:List (Option Nat)}{ρ:Env}{μ:Mu}{h:Heap}(F:gP X env ls ρ μ h){cs:Scope}(hok:gZ env.scope cs=true):closureFor cs env=pure (xg env cs.names []):=
 Ay λy hy e=>F.cells _ ((jI hok).2.2.2 y hy e)
theorem vS{α β:Type}{F:α→β→Prop}{l₁:List α}{l₂:List β}(p:Paired F l₁ l₂):∀(k:Nat) a,l₁[k]? =some a→∃b,l₂[k]? =some b∧F a b:=by
 induction p with
 |nil=>exact λk a h=>fY (List.getElem?_nil.symm.trans h)
 |cons f t ih=>exact λk a=>k.casesOn (λh=>⟨_,rfl,aX h▸f⟩) λk h=>(ih k a h:)
theorem Az{μ:Mu}{h:Heap}{l:List Int}:∀{ys:List Value},ys.length=l.length→(∀(k:Nat) y,ys[k]? =some y→∃i t,l[k]? =some i∧y=.int i t)→bN X μ h (l.map .int) ys:=by
 induction l with
 |nil=>exact λ{ys} h _=>List.eq_nil_of_length_eq_zero h
 |cons i l ih=>
  intro ys hl h
  cases ys with
  |nil=>exact nomatch hl
  |cons y ys=>exact oA (h 0 y rfl) λj t e e3=>⟨_,_,rfl,⟨t,e3.trans (aj (Value.int · t) (aX e).symm)⟩,ih (Nat.succ.inj hl) λk z hz=>h (k+1) z hz⟩
theorem St.kX{μ:Mu}{σ:aa}{s:Shared}(S:St X μ σ s){a:Addr}(h:s.heap.get? a=none):¬bL μ a:=λz=>
 aA z λp hp e=>e.elim (λe=>bK (S.alive hp).1 λo g=>sN g (e▸h)) λe=>bK (S.alive hp).2 λo g=>sN g (e▸h)
theorem St.low{μ:Mu}{σ:aa}{s:Shared}(S:St X μ σ s){a:Addr}(h:s.heap.get? a=none):X.h0.get? a=none:=none_of S.base h
theorem Xe{o:Option Nat}{f:Nat→Bool}{G:Prop}(h:(match o with|some k=>f k|_=>false)=true)(k:∀x,o=some x→f x=true→G):G:=by
 cases o with
 |none=>exact nB h
 |some x=>exact k x rfl h
theorem Fy{prog:Program}{w:World}{A:Around}{I:Addr}{fp wr:List Addr}{n:Nat}{P:Nat→Value→Prop}{St:Nat→Heap→Prop}(W:Walks prog w A I fp wr n P St):Walks prog w A I fp wr n (λi v=>i<n∧P i v) St where
 sub:=W.sub
 frame:=W.frame
 item:=λi s Q E hi st hQ=>W.item i s Q E hi st λv h' tk hp=>hQ v h' tk ⟨hi,hp⟩
 done:=W.done
 self:=W.self
set_option tactic.hygienic true in
theorem yT (B : bE X mg mb) (cC : ∀ i ∈ xs, i < aO.length) {m it : ME} (x : Nat) (hi : SE X n xs it) : SE X n xs (.nX m x it) := by
  intro A env ls ρ σ v τ μ s e hR hc F S he Q E hQ
  refine bw he fun v1 σ1 h1 he => ?_
  dsimp only at he
  refine NU he fun k bP he => ?_
  subst bP
  refine fJ he fun hk he => ?_
  refine aA (map_some he) fun l h2 e2 => ?_
  clear he
  refine mL hc fun y t px j cs pos c1 c2 c3 c4 c5 => ?_
  · refine Xe c1 fun nx UH c1 => ?_
    refine sJ (jI c2) fun k1 k2 k3 k4 => ?_
    refine dF (Fx h2) fun n9 mh => ?_
    rw [rm] at n9
    refine wpAny_ListComp_free (p := fun _ => true) (F := fun a b => ∃ (j : Nat) (i : Int) (t t' : Tok), j < k.toNat ∧ a = .int (j : Int) t ∧ l[j]? = some i ∧ b = .int i t') (F.closure c2) k1 k2 k3 c3 ?_ (iB c4 (cQ h1) env)
    refine hi A env ls ρ σ _ _ μ s _ hR c4 F S h1 _ _ fun ao xv s₁ E₁ S₁ aU => ?_
    refine VR.HQ aU fun a t1 t2 t3 no g => ?_
    refine wpAny_pyIter_range (a := 0) (b := k) (c := 1) g (PySem.small_one (fF _) (fF _) (by exact lD [_] 1 (.neg (.num 4611686018427387904)) vA [.l 1 (.num 0) vA] aI hk.1) (by exact ltI [_] 1 vA (.num 4611686018427387904) [.l 1 vA (.num 1000)] aI hk.2)) ?_
    refine ⟨s₁.heap.objs.size, [s₁.heap.objs.size], [s₁.heap.objs.size], k.toNat, _, _, rfl, Fy (Walks.range hR.1 s₁.heap.objs.size 0 1 k.toNat), by rw [sizeLine_eq]; exact Int.ofNat_le.mp (lD [_, _] 1 vA (.num 16777216) [.l 1 vB (.num 1000), .e 1 vA vB] aI hk.2 (Int.toNat_of_nonneg (hk.1))), ?_, ?_, ⟨fun C i v s₃ m₃ E' hC hv hn hm hk htk => ?_, fun C i v s₃ m₃ E' hC hv _ hn hm hk htk => ?_⟩, ?_⟩
    · show IsRangeIter _ _ _ _ _
      refine ay ((by rw [rangeSize_one]; split <;> grind : Builtin.Range.rangeSize 0 k 1 = (k.toNat : Int))) (?_)
      exact dz _ rfl
    · intro b hb
      simp at hb
      refine ay hb ?_
      simp [Heap.size_push]
    · exact wpAny_tests_nil ⟨rfl, s₃.heap, s₃.toks, rfl, fun _ _ g => g⟩
    · obtain ⟨hin, tk, rfl⟩ := hv
      have keep : ∀ b o, s₁.heap.get? b = some o → s₃.heap.get? b = some o := fun b o g' => hk b o (by simp; exact Nat.ne_of_lt (dh g')) (gX _ g')
      have fresh : s₁.heap.get? C = none := kC (cP [_, _] 1 vA vB [.l 1 (.add vA (.num 1)) vB] aI (by simpa [Heap.size_push] using hC : s₁.heap.objs.size + 1 ≤ C))
      refine aA (mh i (.int ((0 + i : Nat) : Int)) (BZ 0 i k.toNat hin)) fun r hr hp => ?_
      have ei : (0 : Int) + (i : Int) * 1 = ((0 + i : Nat) : Int) := by exact Int.le_antisymm (lD [_] 1 (.add (.num 0) (.mulR vA 1)) (.add (.num 0) vA) [] aI ) (lD [_] 1 (.add (.num 0) vA) (.add (.num 0) (.mulR vA 1)) [] aI )
      rw [ei] at hm
      refine SP cs m A (compEnvC cs (xg env cs.names []) C env) (qk X.NM cs xs x 0 ls) (ρ.set x (some (.int ((0 + i : Nat) : Int)))) ao s₃ y r hp c5
        ((F.mono E₁).comp c2 UH (cC nx (iy UH)) (cz c1) c3 (S₁.kX fresh) (S₁.low fresh) hn hm (by simp only [VR]; exact ⟨tk, rfl⟩) keep) _ _ fun t' k' => ?_
      exact ⟨⟨i, r, tk, t', hin, by rw [ei]; simp, hr, rfl⟩, s₃.heap, k', rfl, fun _ _ g => g⟩
    · intro D h' tk ys vs hD hl hpl aV hP hF hk'
      have keep : ∀ b o, s₁.heap.get? b = some o → h'.get? b = some o := fun b o g' => hk' b o (by simp; exact Nat.ne_of_lt (dh g')) (gX _ g')
      have fresh : s₁.heap.get? D = none := none_of (fun _ _ g => gX _ g) hD
      refine (hQ.oq e2) ao _ _ (E₁.trans (cU.more keep)) (S₁.more keep) ?_
      refine bK hpl fun nn hpl => ?_
      simp only [VR]
      refine ⟨D, ys, nn, rfl, S₁.kX fresh, hpl, ?_⟩
      replace hF := (List.filter_eq_self.mpr (fun _ _ => rfl)) ▸ hF
      have hyl := Paired.length hF
      refine Az (by exact dH ((cG (Eq.trans (Eq.trans (Eq.symm hyl) aV) (Eq.symm n9)))) ((cG (Eq.trans (Eq.trans n9 (Eq.symm aV)) hyl)))) fun k' z hz => ?_
      have hkv : k' < vs.length := by have := (eY hz).1; grind
      refine dY fun G hG => ?_
      obtain ⟨b, hb, j, i, t4, t5, hj, e1, e2, e3⟩ := vS hF k' vs[k'] (iw hkv)
      clear hj
      obtain ⟨_, t6, e4⟩ := hP k' vs[k'] (iw hkv)
      refine hG ?_
      replace e1 := (e4).symm.trans e1
      injection e1 with e1 _
      have : j = k' := by exact dH (Int.ofNat_le.mp (lD [_, _] 1 vA vB [.f 1 (.add (.num 0) (.mulR vB 1)) vA] aI e1)) (Int.ofNat_le.mp (lD [_, _] 1 vA vB [.e 1 (.add (.num 0) (.mulR vA 1)) vB] aI e1))
      cases this
      refine sE hb hz ?_
      exact ⟨i, t5, e2, e3⟩
theorem yU(B:bE X mg mb){it:ME}(hi:SE X n xs it):SE X n xs (.o4 it):=by
 intro A env ls ρ σ v τ μ s e hR hc F S he Q E hQ
 refine bw he λv1 σ1 h1 he=>?_
 dsimp only at he
 split at he
 ·skip
  refine mO hc λy t px j ifs cs pos c2 c3 c4=>?_
  refine sJ (jI c2) λk1 k2 k3 k4=>?_
  refine wpAny_ListComp_free (p:=λ_=>true) (F:=λa b=>True) (F.closure c2) k1 k2 k3 c3 ?_ (iB c4 (cQ h1) env)
  refine hi A env ls ρ σ _ _ μ s _ hR c4 F S h1 _ _ λao xv s₁ E₁ S₁ aU=>?_
  simp only[VR,bN] at aU
  refine jN aU λa az k yJ no g hv=>?_
  clear no aU
  subst yJ
  have g8:az= #[]:=by simpa using hv
  subst g8
  refine wpAny_pyIter_list ⟨_,g,rfl,k,rfl⟩ ?_
  refine⟨s₁.heap.objs.size,[s₁.heap.objs.size,a],[s₁.heap.objs.size],_,_,_,rfl,Walks.list hR.1 s₁.heap.objs.size a (Nat.ne_of_lt (dh g)) #[],by rw[sizeLine_eq];simp,?_,?_,⟨λC i v s₃ m₃ E' hC hv=>?_,λC i v s₃ m₃ E' hC hv=>?_⟩,?_⟩
  ·exact⟨⟨_,dz _ rfl,rfl,rfl⟩,⟨_,gX _ g,rfl,k,rfl⟩⟩
  ·intro b hb
   simp only[List.mem_cons,iO,or_false] at hb
   rcases hb with rfl|rfl
   ·simp[Heap.size_push]
   ·exact dh (gX _ g)
  ·simp at hv
  ·simp at hv
  ·intro D h' tk ys vs hD hl hpl aV hP hF hk'
   have keep:∀b o,s₁.heap.get? b=some o→h'.get? b=some o:=λb o g'=>hk' b o (by simp;exact Nat.ne_of_lt (dh g')) (gX _ g')
   have fresh:s₁.heap.get? D=none:=none_of (λ_ _ g=>gX _ g) hD
   refine(hQ.of he) ao _ _ (E₁.trans (cU.more keep)) (S₁.more keep) ?_
   refine bK hpl λnn hpl=>?_
   have hv0:vs=[]:=List.length_eq_zero_iff.mp (‹_›)
   clear hP aV
   subst hv0
   have hy:=Paired.length hF
   simp only[VR]
   refine⟨D,ys,nn,rfl,S₁.kX fresh,hpl,?_⟩
   have:ys.toList=[]:=List.length_eq_zero_iff.mp (by simpa using hy.symm)
   rw[this];simp[bN]
 ·cases he
theorem Ia(B:bE X mg mb)(o1 o2:Cm){a b c:ME}(ha:SE X n xs a)(hb:SE X n xs b)(hcc:SE X n xs c):ST X n xs (.sj a o1 b o2 c):=by
 intro A env ls ρ σ v τ bb μ s e hR hc F S he ht Q E hQ
 refine bw he λv1 σ1 h1 he=>?_
 refine bw he λv2 σ2 h2 he=>?_
 refine aA (bind_some he) λr h3 he=>?_
 refine pJ hc λx p1 p2 y z pos c0 c1 c2 c3 c4 c5=>?_
 refine(?_:wpAny (model X.prog X.w) A (do testChain pos (←eval x env) [p1,p2] (markedEach [p1,p2] [y,z] [eval y env,eval z env])) Q E s)
 refine au (ha A env ls ρ σ v1 σ1 μ s _ hR c3 F S h1 _ _ λao x1 s₁ E₁ S₁ aU=>?_)
 clear hc
 refine ay (mR (jY _ c5 (by rintro rfl;cases c0))) (?_)
 refine au (cF (hb A env ls ρ σ1 v2 σ2 ao s₁ _ hR c4 (F.mono E₁) S₁ h2 _ _ λbB y1 s₂ E₂ S₂ cZ=>?_))
 refine au (wpAny_standAt (au (cF (qz B hR S₂ c1 (aU.mono E₂) cZ h3 λdP c₃ s₃ E₃ cu kg=>?_))))
 clear h3
 simp only[VR] at kg
 subst kg
 refine au (wpAny_release (au (cF (wpAny_truthy_bool ?_))))
 cases r with
 |false=>
  simp only[Bool.false_eq_true,if_false,Option.some.injEq,Prod.mk.injEq] at he
  refine dY λG hG=>?_
  obtain⟨rfl,rfl⟩:=he
  simp only[dB,Option.some.injEq] at ht
  subst ht
  refine hG ?_
  exact aT (hQ dP s₃ ((E₁.trans E₂).trans E₃) cu)
 |true=>
  dsimp only[if_true] at he⊢
  refine dY λG hG=>?_
  refine bw he λv3 σ3 h4 he=>?_
  refine aA (map_some he) λr' h5 e5=>?_
  clear he
  cases e5
  simp only[dB,Option.some.injEq] at ht
  refine hG ?_
  refine au (cF (hcc A env ls ρ σ2 v3 σ3 dP s₃ _ hR c5 (((F.mono E₁).mono E₂).mono E₃) cu h4 _ _ λiX z1 s₄ gk iA kU=>?_))
  refine au (wpAny_standAt (au (wpAny_operateT (qz B hR iA c2 ((cZ.mono E₃).mono gk) kU h5 λvt Oa s₅ xd xe CR=>?_))))
  simp only[VR] at CR
  subst CR
  exact cF (wpAny_truthy_bool ((hQ.ov ht) vt s₅ ((((E₁.trans E₂).trans E₃).trans gk).trans xd) xe))
theorem Fz:SE X n xs .never:=by
 intro A env ls ρ σ v τ μ s e hR hc F S he
 exact fY he
theorem FE:ST X n xs .never:=by
 intro A env ls ρ σ v τ b μ s e hR hc F S he
 exact fY he
noncomputable def Lx:ME→Bool
 | .not _| .and _| .or _| .cmp .. | .sj .. | .ite .. | .never=>false
 |_=>true
theorem bQ{W:qU}{sc:Scope}{ls:List (Option Nat)}{m:ME}{e:Expr}(hm:Lx m=true)(h:aJ W sc ls m e=true):special e=false:=by
 cases m
 ·exact qw h λ_ _ _ _=>rfl
 ·exact qx h λ_ _ _ _=>rfl
 ·exact jW h λ_ _ _ _ _ _=>rfl
 ·exact pG h λ_ _ _ _ _ _ _=>rfl
 ·exact pH h λ_ _ _ _ _=>rfl
 ·exact mK h λ_ _ _ _ _ _ _ _=>rfl
 ·exact kM h λ_ _ _ _ _ _=>rfl
 ·exact kN h λ_ _ _ _ _ _=>rfl
 ·exact jX h λ_ _ _ _ _ _=>rfl
 ·exact kO h λ_ _ _ _ _ _ _ _=>rfl
 ·exact pI h λ_ _ _ _ _ _ _ _ _ _=>rfl
 ·exact kQ h λ_ _ _ _ _ _ _ _ _ _=>rfl
 ·exact qy h λ_ _ _ _ _ _ _=>rfl
 ·exact sV h λ_ _ _=>rfl
 ·exact nB hm
 ·exact nB hm
 ·exact nB hm
 ·exact nB hm
 ·exact nB hm
 ·exact nB hm
 ·exact s7 h λ_ _ _ _ _=>rfl
 ·exact s8 h λ_ _ _ _=>rfl
 ·exact pK h λ_ _ _ _=>rfl
 ·exact pL h λ_ _ _ _ _=>rfl
 ·exact mL h λ_ _ _ _ _ _ _ _ _ _ _=>rfl
 ·exact mO h λ_ _ _ _ _ _ _ _ _ _=>rfl
 ·exact nB hm
mutual
theorem aG(B:bE X mg mb)(Kp:Keeps X)(hC:SC X n)(cC:∀i∈xs,i<aO.length):∀m,SE X n xs m
 | .lit v=>EM v
 | .var i=>wQ i
 | .glob k v=>pN B k v
 | .attr e k=>BN B k (aG B Kp hC cC e)
 | .item a b=>BU B (aG B Kp hC cC a) (aG B Kp hC cC b)
 | .slice a b c=>yN B (aG B Kp hC cC a) (aG B Kp hC cC b) (aG B Kp hC cC c)
 | .lH a b=>vK B (aG B Kp hC cC a) (aG B Kp hC cC b)
 | .j3 a b=>vL B (aG B Kp hC cC a) (aG B Kp hC cC b)
 | .call f ms=>BV B Kp hC (aG B Kp hC cC f) (fV B Kp hC cC ms)
 | .bH b k a=>yP B b k (aG B Kp hC cC a)
 | .uI a b=>BW B (aG B Kp hC cC a) (aG B Kp hC cC b)
 | .append a b=>vO B (aG B Kp hC cC a) (aG B Kp hC cC b)
 | .bin op a b=>EZ B op (aG B Kp hC cC a) (aG B Kp hC cC b)
 | .neg a=>E0 (aG B Kp hC cC a)
 | .not a=>Lj (aG B Kp hC cC a)
 | .and ms=>Lo (fV B Kp hC cC ms)
 | .or ms=>Ob (fV B Kp hC cC ms)
 | .cmp a op b=>Lm B op (aG B Kp hC cC a) (aG B Kp hC cC b)
 | .sj a o1 b o2 c=>H6 B o1 o2 (aG B Kp hC cC a) (aG B Kp hC cC b) (aG B Kp hC cC c)
 | .ite t a b=>Lq (mT B Kp hC cC t) (aG B Kp hC cC a) (aG B Kp hC cC b)
 | .tup ms=>Fc (fV B Kp hC cC ms)
 | .lst ms=>Fe (fV B Kp hC cC ms)
 | .cell ms=>BS (fV B Kp hC cC ms)
 | .dict ms=>BX B (fV B Kp hC cC ms)
 | .nX e x it=>yT B cC x (aG B Kp hC cC it)
 | .o4 it=>yU B (aG B Kp hC cC it)
 | .never=>Fz
theorem fV(B:bE X mg mb)(Kp:Keeps X)(hC:SC X n)(cC:∀i∈xs,i<aO.length):∀ms:List ME,∀m∈ms,SE X n xs m
 | [],m,h=>nomatch h
 |a::r,m,h=>by
  rcases eH h with e|h
  ·rw[e];exact aG B Kp hC cC a
  ·exact fV B Kp hC cC r m h
theorem xj(B:bE X mg mb)(Kp:Keeps X)(hC:SC X n)(cC:∀i∈xs,i<aO.length):∀ms:List ME,∀m∈ms,ST X n xs m
 | [],m,h=>nomatch h
 |a::r,m,h=>by
  rcases eH h with e|h
  ·rw[e];exact mT B Kp hC cC a
  ·exact xj B Kp hC cC r m h
theorem mT(B:bE X mg mb)(Kp:Keeps X)(hC:SC X n)(cC:∀i∈xs,i<aO.length):∀m,ST X n xs m
 | .not a=>Ll (mT B Kp hC cC a)
 | .and ms=>Lp (xj B Kp hC cC ms)
 | .or ms=>Oc (xj B Kp hC cC ms)
 | .cmp a op b=>Ln B op (aG B Kp hC cC a) (aG B Kp hC cC b)
 | .sj a o1 b o2 c=>Ia B o1 o2 (aG B Kp hC cC a) (aG B Kp hC cC b) (aG B Kp hC cC c)
 | .ite t a b=>Lr (mT B Kp hC cC t) (mT B Kp hC cC a) (mT B Kp hC cC b)
 | .never=>FE
 | .lit v=>gQ (EM v) λ_ _ _ h=>bQ rfl h
 | .var i=>gQ (wQ i) λ_ _ _ h=>bQ rfl h
 | .glob k v=>gQ (pN B k v) λ_ _ _ h=>bQ rfl h
 | .attr e k=>gQ (BN B k (aG B Kp hC cC e)) λ_ _ _ h=>bQ rfl h
 | .item a b=>gQ (BU B (aG B Kp hC cC a) (aG B Kp hC cC b)) λ_ _ _ h=>bQ rfl h
 | .slice a b c=>gQ (yN B (aG B Kp hC cC a) (aG B Kp hC cC b) (aG B Kp hC cC c)) λ_ _ _ h=>bQ rfl h
 | .lH a b=>gQ (vK B (aG B Kp hC cC a) (aG B Kp hC cC b)) λ_ _ _ h=>bQ rfl h
 | .j3 a b=>gQ (vL B (aG B Kp hC cC a) (aG B Kp hC cC b)) λ_ _ _ h=>bQ rfl h
 | .call f ms=>gQ (BV B Kp hC (aG B Kp hC cC f) (fV B Kp hC cC ms)) λ_ _ _ h=>bQ rfl h
 | .bH b k a=>gQ (yP B b k (aG B Kp hC cC a)) λ_ _ _ h=>bQ rfl h
 | .uI a b=>gQ (BW B (aG B Kp hC cC a) (aG B Kp hC cC b)) λ_ _ _ h=>bQ rfl h
 | .append a b=>gQ (vO B (aG B Kp hC cC a) (aG B Kp hC cC b)) λ_ _ _ h=>bQ rfl h
 | .bin op a b=>gQ (EZ B op (aG B Kp hC cC a) (aG B Kp hC cC b)) λ_ _ _ h=>bQ rfl h
 | .neg a=>gQ (E0 (aG B Kp hC cC a)) λ_ _ _ h=>bQ rfl h
 | .tup ms=>gQ (Fc (fV B Kp hC cC ms)) λ_ _ _ h=>bQ rfl h
 | .lst ms=>gQ (Fe (fV B Kp hC cC ms)) λ_ _ _ h=>bQ rfl h
 | .cell ms=>gQ (BS (fV B Kp hC cC ms)) λ_ _ _ h=>bQ rfl h
 | .dict ms=>gQ (BX B (fV B Kp hC cC ms)) λ_ _ _ h=>bQ rfl h
 | .nX e x it=>gQ (yT B cC x (aG B Kp hC cC it)) λ_ _ _ h=>bQ rfl h
 | .o4 it=>gQ (yU B (aG B Kp hC cC it)) λ_ _ _ h=>bQ rfl h
end
end
structure ef(a:Addr)(μ bA:Mu)(h h':Heap):Prop where
 pre:∃t,bA=μ++t∧∀p∈t,h.get? p.1=none∧h.get? p.2=none
 keep:∀b o,b≠a→¬bL μ b→h.get? b=some o→h'.get? b=some o
 live:∀b o,bL μ b→h.get? b=some o→∃o',h'.get? b=some o'
 self:∀o,h.get? a=some o→∃o',h'.get? a=some o'
theorem cU.l{a:Addr}{μ bA:Mu}{h h':Heap}(e:cU μ bA h h'):ef a μ bA h h':=⟨e.pre,λb o _ n g=>e.keep b o n g,e.live,λo g=>e.alive g⟩
theorem ef.refl{a:Addr}{μ:Mu}{h:Heap}:ef a μ μ h h:=cU.refl.l
theorem ef.alive{a:Addr}{μ bA:Mu}{h h':Heap}(e:ef a μ bA h h'){b:Addr}{o:Obj}(g:h.get? b=some o):∃o',h'.get? b=some o':=by
 by_cases z:b=a
 ·subst z;exact e.self o g
 ·by_cases q:bL μ b
  ·exact e.live b o q g
  ·exact⟨o,e.keep b o z q g⟩
theorem ef.dead{a:Addr}{μ bA:Mu}{h h':Heap}(e:ef a μ bA h h'){b:Addr}(g:h'.get? b=none):h.get? b=none:=by
 cases q:h.get? b with
 |none=>rfl
 |some o=>obtain⟨o',g'⟩:=e.alive q;exact sN g' g
theorem ef.eV{a:Addr}{μ bA:Mu}{h h':Heap}(e:ef a μ bA h h'){b:Addr}{o:Obj}(n:¬bL μ b)(g:h.get? b=some o):¬bL bA b:=by
 refine aA e.pre λt bP ht=>?_
 refine ay bP ?_
 exact iL n g ht
theorem ef.trans{a:Addr}{ao bB dP:Mu}{h₁ h₂ h₃:Heap}(x:ef a ao bB h₁ h₂)(y:ef a bB dP h₂ h₃):ef a ao dP h₁ h₃:=by
 refine⟨?_,λb o z n g=>y.keep b o z (x.eV n g) (x.keep b o z n g),λb o n g=>?_,λo g=>?_⟩
 ·refine aA x.pre λt bP ht=>?_
  subst bP
  refine aA y.pre λu bP hu=>?_
  refine ay bP ?_
  refine⟨t++u,List.append_assoc ..,λp hp=>?_⟩
  rcases List.mem_append.mp hp with q|q
  ·exact ht p q
  ·exact⟨x.dead (hu p q).1,x.dead (hu p q).2⟩
 ·obtain⟨o',g'⟩:=x.alive g
  exact y.alive g'
 ·obtain⟨o',g'⟩:=x.self o g
  exact y.alive g'
theorem ef.v{a:Addr}{μ bA:Mu}{h h':Heap}(e:ef a μ bA h h')(hd:∀o,h.get? a=some o→fc o=false):gG μ bA h h':=by
 refine⟨?_,λb o n g v=>e.keep b o (λz=>?_) n g⟩
 ·refine aA e.pre λt h1 h2=>?_
  exact⟨t,h1,λp hp o ho=>by rcases ho with q|q<;>simp[h2 p hp] at q⟩
 ·subst z;cases(hd o g).symm.trans v
theorem ef.ext{a:Addr}{μ bA:Mu}{h h':Heap}(e:ef a μ bA h h')(g:h.get? a=none):cU μ bA h h':=
 ⟨e.pre,λb o n q=>e.keep b o (λz=>sN (z▸q) g) n q,e.live⟩
theorem ef.after{a:Addr}{ao bB dP:Mu}{h₁ h₂ h₃:Heap}(x:cU ao bB h₁ h₂)(y:ef a bB dP h₂ h₃)(g:h₁.get? a=none):cU ao dP h₁ h₃:=(x.l.trans y).ext g
section
variable {X:Ctx} {n:Nat} {xs:List Nat} {mg mb:Str→Option Value}
noncomputable def x9(X:Ctx)(μ:Mu)(h:Heap):Fl→Flow→Prop
 | .next,f=>f=.next
 | .brk,f=>f=.brk
 | .cont,f=>f=.cont
 | .ret v,f=>∃x,f=.ret x∧VR X μ h v x
noncomputable def kY(X:Ctx)(env:PySem.Env)(ls:List (Option Nat))(μ:Mu)(s:Shared)(fl:Fl)(ρ:Env)(τ:aa)(Q:Flow→Shared→Prop):Prop:=
 ∀bA f s',ef env.locals μ bA s.heap s'.heap→St X bA τ s'→gP X env ls ρ bA s'.heap→x9 X bA s'.heap fl f→Q f s'
section
variable {X:Ctx} {μ:Mu} {s:Shared} {v v':V} {τ mq:aa} {Q:Value→Shared→Prop}
variable {env:PySem.Env} {ls:List (Option Nat)} {fl Qy:Fl} {ρ ρ':Env} {R:Flow→Shared→Prop}
theorem kY.of(hQ:kY X env ls μ s fl ρ τ R)(e:some (Qy,ρ',mq)=some (fl,ρ,τ)):kY X env ls μ s Qy ρ' mq R:=ay (P:=λt:Fl × Env × aa=>kY X env ls μ s t.1 t.2.1 t.2.2 R) (aX e) hQ
theorem kY.oq(hQ:kY X env ls μ s fl ρ τ R)(e:(Qy,ρ',mq)=(fl,ρ,τ)):kY X env ls μ s Qy ρ' mq R:=ay (P:=λt:Fl × Env × aa=>kY X env ls μ s t.1 t.2.1 t.2.2 R) e hQ
theorem kY.ot(hQ:kY X env ls μ s fl ρ τ R)(e:some mq=some τ):kY X env ls μ s fl ρ mq R:=aX e▸hQ
end
noncomputable def SS(X:Ctx)(n:Nat)(xs:List Nat)(m:MS):Prop:=∀(A:Around)(env:PySem.Env) ls ρ σ fl ρ' τ μ s st,Room A n→j4 ⟨X.NM,xs⟩ env.scope ls m st=true→gP X env ls ρ μ s.heap→St X μ σ s→
 kH (af P0 n) ρ m σ=some (fl,ρ',τ)→∀Q E,kY X env ls μ s fl ρ' τ Q→wpAny (model X.prog X.w) A (exec st env) Q E s
noncomputable def SB(X:Ctx)(n:Nat)(xs:List Nat)(ms:List MS):Prop:=∀(A:Around)(env:PySem.Env) ls ρ σ fl ρ' τ μ s sts,Room A n→jM ⟨X.NM,xs⟩ env.scope ls ms sts=true→gP X env ls ρ μ s.heap→St X μ σ s→
 aP (af P0 n) ρ ms σ=some (fl,ρ',τ)→∀Q E,kY X env ls μ s fl ρ' τ Q→wpAny (model X.prog X.w) A (execs sts env) Q E s
theorem gP.ie{env:PySem.Env}{ls:List (Option Nat)}{ρ:Env}{μ:Mu}{h:Heap}(F:gP X env ls ρ μ h):∀o,h.get? env.locals=some o→fc o=false:=by
 refine dY λG hG=>?_
 obtain⟨m,⟨o,es,ep,ho,hd,_⟩,_⟩:=F.ns
 refine hG ?_
 intro o' g
 obtain rfl:=sU ho g
 unfold fc;rw[hd]
theorem gP.at{env:PySem.Env}{ls:List (Option Nat)}{ρ:Env}{μ:Mu}{h:Heap}(F:gP X env ls ρ μ h):∃o,h.get? env.locals=some o:=by
 refine dY λG hG=>?_
 obtain⟨m,⟨o,es,ep,ho,_⟩,_⟩:=F.ns
 refine hG ?_
 exact⟨o,ho⟩
theorem St.but{μ:Mu}{σ:aa}{s s':Shared}(S:St X μ σ s){a:Addr}(hs:Heap.SameBut a s.heap s'.heap)(no:¬bL μ a)(nv:∀o,s.heap.get? a=some o→fc o=false)(hl:X.h0.get? a=none)
  (hg:s'.gens=s.gens:=by rfl)(hos:s'.os=s.os:=by rfl):St X μ σ s':=by
 have E:gG μ μ s.heap s'.heap:=⟨uJ,λb o n g v=>(hs.2 b λz=>by subst z;cases(nv o g).symm.trans v).trans g⟩
 refine⟨S.len,S.above,S.main,S.sep,λi o p e g=>?_,λb o e=>(hs.2 b λz=>sN (z▸e) hl).trans (S.base b o e),hg.trans S.gens,hos.trans S.os⟩
 have hm:=iy g
 exact OR.mono E (hs.2 _ (λz=>no ⟨p,hm,.inl z.symm⟩)) (hs.2 _ (λz=>no ⟨p,hm,.inr z.symm⟩)) (S.obj i o p e g)
theorem mU{h:Heap}{a:Addr}{m:Str→Option Value}(x:h.Ns a m):∃o,h.get? a=some o:=let⟨o,_,_,ho,_⟩:=x;⟨o,ho⟩
theorem kZ(B:bE X mg mb){A:Around}{env:PySem.Env}{ls:List (Option Nat)}{ρ:Env}{μ:Mu}{σ:aa}{s:Shared}(F:gP X env ls ρ μ s.heap)(S:St X μ σ s){u:V}{y:Value}(hu:VR X μ s.heap u y){x:Nat}{t:Str}(hx:eZ ⟨X.NM,xs⟩ env.scope ls x t=true)
  {Q:Unit→Shared→Prop}{E:Value→Shared→Prop}(h:∀s',ef env.locals μ μ s.heap s'.heap→St X μ σ s'→gP X env ls (ρ.set x (some u)) μ s'.heap→(∀v z,VR X μ s.heap v z→VR X μ s'.heap v z)→Q () s'):wpAny (model X.prog X.w) A (storeName env t y) Q E s:=by
 simp only[eZ,Bool.and_eq_true,beq_iff_eq] at hx
 obtain⟨h1,h2⟩:=hx
 refine K7 h1 λa ha h1=>?_
 have ht:X.NM a=t:=cz h1
 clear h1
 subst ht
 refine aA F.ns λm hn hm=>?_
 refine wpAny_storeName_local h2 hn (λh' hn' jF=>?_) (by rw[F.kind];rfl)
 have EL:ef env.locals μ μ s.heap h':=⟨uJ,λb o z n g=>(jF.2 b z).trans g,λb o n g=>⟨o,(jF.2 b λz=>F.own (z▸n)).trans g⟩,λo g=>mU hn'⟩
 have EV:=EL.v F.ie
 refine h {s with heap:=h',toks:=s.toks+1} EL (S.but jF F.own F.ie F.low) ⟨F.own,F.low,F.kind,F.glob,F.blt,F.cells,F.nodup,F.lt,_,hn',λi b v hi hv=>?_⟩ (λv z g=>VR.bI EV v z g)
 by_cases e:i=x
 ·clear h1 h
  subst e
  cases ha.symm.trans hi
  left
  have aV:i<ρ.length:=by
   rcases Nat.lt_or_ge i ρ.length with q|q
   ·exact q
   ·rw[List.set_eq_of_length_le q,List.getElem?_eq_none q] at hv;cases hv
  replace hv:=(List.getElem?_set_self aV)▸hv
  cases hv
  exact⟨h2,y,by simp,VR.bI EV _ _ hu⟩
 ·clear hn' h2 h1
  replace hv:=Eq.trans (Eq.symm (List.getElem?_set_ne (λz=>e z.symm))) hv
  have bT:X.NM b≠X.NM a:=λz=>by
   have:=B.inj b a (F.lt i b hi) (F.lt x a ha) z
   subst this
   exact e (F.nodup i x b hi ha)
  rcases hm i b v hi hv with⟨q,z,w,g⟩|⟨q,c,z,hc,no,⟨oc,g,gd⟩,w⟩
  ·exact .inl ⟨q,z,by rw[aB bT];exact w,VR.bI EV _ _ g⟩
  ·right
   have Ly:c≠env.locals:=λz'=>by
    refine KV hn λo es ep ho hd _=>?_
    rw[←z',g] at ho
    obtain rfl:=aX ho
    cases hd.symm.trans gd
   exact⟨q,c,z,hc,no,⟨oc,(jF.2 c Ly).trans g,gd⟩,VR.bI EV _ _ w⟩
end
section
variable {W:qU} {sc:Scope} {ls:List (Option Nat)}
@[elab_as_elim] theorem qB{x:_}{e:_}{P:Stmt→Prop}{y0:Stmt}(hc:j4 W sc ls (.assign x e) y0=true)(k:∀t w1 v w2,(eZ W sc ls x t=true)→(ow v=true)→(aJ W sc ls e v=true)→P (.Assign [.Name t w1] v w2)):P y0:=by
 refine fM hc λy1 v w2 hc=>?_
 refine cK hc λy2 y3 hc=>?_
 refine bD hc λt w1 hc=>?_
 refine cg hc λhc=>?_
 exact k _ _ _ _ (lF hc) (gz hc) (aR hc)
@[elab_as_elim] theorem AA{x:_}{d:_}{k:_}{it:_}{P:Stmt→Prop}{y0:Stmt}(hc:j4 W sc ls (.jQ x d k it) y0=true)(k:∀t p0 dn w1 kn w2 w3 kt w4 j cs p1 p2,(eZ W sc ls x t=true)→(gZ sc cs=true)→(cs.names.lookup kt=some .local)→(kn=kt)→(kn≠("__debug__":Str))→(t≠kt)→(p0.line=p1.line)→(p2.line=p1.line)→((cs.names.any λy=>y.1==t&&(y.2== .local||y.2== .cell))=false)→(u0 W cs ls d dn=true)→(aJ W sc ls it j=true)→P (.Assign [.Name t p0] (.ListComp (.Subscript (.Name dn w1) (.Name kn w2) w3) [⟨.Name kt w4,j,[],0⟩] cs p1) p2)):P y0:=by
 refine fM hc λy1 y2 p2 hc=>?_
 refine cK hc λy3 y4 hc=>?_
 refine bD hc λt p0 hc=>?_
 refine cg hc λhc=>?_
 refine j8 hc λy5 y6 cs p1 hc=>?_
 refine bU hc λy7 y8 w3 hc=>?_
 refine bD hc λdn w1 hc=>?_
 refine bD hc λkn w2 hc=>?_
 refine cK hc λy9 JP hc=>?_
 refine rX hc λJQ j JR JS hc=>?_
 refine bD hc λkt w4 hc=>?_
 refine cg hc λhc=>?_
 refine HR hc λhc=>?_
 refine cg hc λhc=>?_
 exact k _ _ _ _ _ _ _ _ _ _ _ _ _ (z6 (aL hc)) (lG (aL hc)) (cz (lG hc)) (cz (CB hc)) (bne_iff_ne.mp (Cz hc)) (bne_iff_ne.mp (Cy hc)) (cz (z7 hc)) (cz (sd hc)) (nT (nO hc)) (gz hc) (aR hc)
@[elab_as_elim] theorem AD{x:_}{d:_}{k:_}{it:_}{P:Stmt→Prop}{y0:Stmt}(hc:j4 W sc ls (.jR x d k it) y0=true)(k:∀t p0 HH w1 dn w2 kn w3 w4 kt w5 j cs p1 p2,(eZ W sc ls x t=true)→(gZ sc cs=true)→(cs.names.lookup kt=some .local)→(kn=kt)→(HH=kt)→(kn≠("__debug__":Str))→(t≠kt)→(p0.line=p1.line)→(p2.line=p1.line)→((cs.names.any λy=>y.1==t&&(y.2== .local||y.2== .cell))=false)→(u0 W cs ls d dn=true)→(aJ W sc ls it j=true)→P (.Assign [.Name t p0] (.DictComp (.Name HH w1) (.Subscript (.Name dn w2) (.Name kn w3) w4) [⟨.Name kt w5,j,[],0⟩] cs p1) p2)):P y0:=by
 refine fM hc λy1 y2 p2 hc=>?_
 refine cK hc λy3 y4 hc=>?_
 refine bD hc λt p0 hc=>?_
 refine cg hc λhc=>?_
 refine uM hc λy5 y6 y7 cs p1 hc=>?_
 refine bD hc λHH w1 hc=>?_
 refine bU hc λy8 y9 w4 hc=>?_
 refine bD hc λdn w2 hc=>?_
 refine bD hc λkn w3 hc=>?_
 refine cK hc λJP JQ hc=>?_
 refine rX hc λJR j JS NF hc=>?_
 refine bD hc λkt w5 hc=>?_
 refine cg hc λhc=>?_
 refine HR hc λhc=>?_
 refine cg hc λhc=>?_
 exact k _ _ _ _ _ _ _ _ _ _ _ _ _ _ _ (z6 (aL (aL hc))) (lG (aL (aL hc))) (cz (lG (aL hc))) (cz (lG hc)) (cz (CB hc)) (bne_iff_ne.mp (Cz hc)) (bne_iff_ne.mp (Cy hc)) (cz (z7 hc)) (cz (sd hc)) (nT (nO hc)) (gz hc) (aR hc)
@[elab_as_elim] theorem FF{x:_}{b:_}{n:_}{g:_}{P:Stmt→Prop}{y0:Stmt}(hc:j4 W sc ls (.sq x b n g) y0=true)(k:∀t w1 g1 w2 b1 w3 a w4 t2 w5 w6 g2 w7 t3 w8 w9 Rl Rk,(eZ W sc ls x t=true)→(t2=t)→(t3=t)→(g2=g1)→(t≠("__debug__":Str))→(qV W sc ls b b1=true)→(qV W sc ls g g1=true)→(W.NM n=a)→(n∈bW)→(x≠b)→(x≠g)→P (.For (.Name t w1) (.Name g1 w2) [.Assign [.Subscript (.Attribute (.Name b1 w3) a w4) (.Name t2 w5) w6] (.Subscript (.Name g2 w7) (.Name t3 w8) w9) Rl] [] Rk)):P y0:=by
 refine sS hc λy1 y2 y3 y4 Rk hc=>?_
 refine bD hc λt w1 hc=>?_
 refine bD hc λg1 w2 hc=>?_
 refine cK hc λy5 y6 hc=>?_
 refine fM hc λy7 y8 Rl hc=>?_
 refine cK hc λy9 JP hc=>?_
 refine bU hc λJQ JR w6 hc=>?_
 refine fL hc λJS a w4 hc=>?_
 refine bD hc λb1 w3 hc=>?_
 refine bD hc λt2 w5 hc=>?_
 refine cg hc λhc=>?_
 refine bU hc λNF Uv w9 hc=>?_
 refine bD hc λg2 w7 hc=>?_
 refine bD hc λt3 w8 hc=>?_
 refine cg hc λhc=>?_
 refine cg hc λhc=>?_
 exact k _ _ _ _ _ _ _ _ _ _ _ _ _ _ _ _ _ _ (z6 (aL hc)) (cz (lG (aL hc))) (cz (lG hc)) (cz (CB hc)) (bne_iff_ne.mp (Cz hc)) (Cy hc) (z7 hc) (cz (sd hc)) (List.contains_iff_mem.mp (nO hc)) (bne_iff_ne.mp (gz hc)) (bne_iff_ne.mp (aR hc))
@[elab_as_elim] theorem tN{o:_}{n:_}{e:_}{P:Stmt→Prop}{y0:Stmt}(hc:j4 W sc ls (.setattr o n e) y0=true)(k:∀b a w1 v w2,(W.NM n=a)→(n∈bW)→(aJ W sc ls o b=true)→(aJ W sc ls e v=true)→P (.Assign [.Attribute b a w1] v w2)):P y0:=by
 refine fM hc λy1 v w2 hc=>?_
 refine cK hc λy2 y3 hc=>?_
 refine fL hc λb a w1 hc=>?_
 refine cg hc λhc=>?_
 exact k _ _ _ _ _ (cz (z5 hc)) (List.contains_iff_mem.mp (nO hc)) (gz hc) (aR hc)
@[elab_as_elim] theorem AE{o:_}{k:_}{e:_}{P:Stmt→Prop}{y0:Stmt}(hc:j4 W sc ls (.aS o k e) y0=true)(k:∀b i w1 v w2,(aJ W sc ls o b=true)→(aJ W sc ls k i=true)→(aJ W sc ls e v=true)→P (.Assign [.Subscript b i w1] v w2)):P y0:=by
 refine fM hc λy1 v w2 hc=>?_
 refine cK hc λy2 y3 hc=>?_
 refine bU hc λb i w1 hc=>?_
 refine cg hc λhc=>?_
 exact k _ _ _ _ _ (lF hc) (gz hc) (aR hc)
@[elab_as_elim] theorem Dd{ys:_}{e:_}{P:Stmt→Prop}{y0:Stmt}(hc:j4 W sc ls (.unpack ys e) y0=true)(k:∀elts w1 w2 v w3,(jA W sc ls ys elts=true)→(Aa v=true)→(ow v=true)→(aJ W sc ls e v=true)→P (.Assign [.Tuple elts w1 w2] v w3)):P y0:=by
 refine fM hc λy1 v w3 hc=>?_
 refine cK hc λy2 y3 hc=>?_
 refine oG hc λelts w1 w2 hc=>?_
 refine cg hc λhc=>?_
 exact k _ _ _ _ _ (z5 hc) (nO hc) (gz hc) (aR hc)
@[elab_as_elim] theorem Lz{x:_}{op:_}{e:_}{P:Stmt→Prop}{y0:Stmt}(hc:j4 W sc ls (.aug x op e) y0=true)(k:∀t w1 o v w2,(eZ W sc ls x t=true)→(CD op o=true)→(aJ W sc ls e v=true)→P (.AugAssign (.Name t w1) o v w2)):P y0:=by
 refine sR hc λy1 o v w2 hc=>?_
 refine bD hc λt w1 hc=>?_
 exact k _ _ _ _ _ (lF hc) (gz hc) (aR hc)
@[elab_as_elim] theorem Ib{e:_}{P:Stmt→Prop}{y0:Stmt}(hc:j4 W sc ls (.expr e) y0=true)(k:∀v w1,(ow v=true)→(aJ W sc ls e v=true)→P (.Expr v w1)):P y0:=by
 refine CK hc λv w1 hc=>?_
 exact k _ _ (aL hc) (aR hc)
@[elab_as_elim] theorem LA{e:_}{P:Stmt→Prop}{y0:Stmt}(hc:j4 W sc ls (.ret e) y0=true)(k:∀v w1,(aJ W sc ls e v=true)→P (.Return (some v) w1)):P y0:=by
 refine yo hc λy1 w1 hc=>?_
 refine pq hc λv hc=>?_
 exact k _ _ hc
@[elab_as_elim] theorem LB{t:_}{a:_}{b:_}{P:Stmt→Prop}{y0:Stmt}(hc:j4 W sc ls (.ite t a b) y0=true)(k:∀c x y w1,(aJ W sc ls t c=true)→(jM W sc ls a x=true)→(jM W sc ls b y=true)→P (.If c x y w1)):P y0:=by
 refine HT hc λc x y w1 hc=>?_
 exact k _ _ _ _ (lF hc) (gz hc) (aR hc)
@[elab_as_elim] theorem FG{t:_}{b:_}{P:Stmt→Prop}{y0:Stmt}(hc:j4 W sc ls (.while t b) y0=true)(k:∀c x w1,(aJ W sc ls t c=true)→(jM W sc ls b x=true)→P (.While c x [] w1)):P y0:=by
 refine Aj hc λc x y1 w1 hc=>?_
 refine cg hc λhc=>?_
 exact k _ _ _ (aL hc) (aR hc)
@[elab_as_elim] theorem FH{x:_}{it:_}{b:_}{P:Stmt→Prop}{y0:Stmt}(hc:j4 W sc ls (.for x it b) y0=true)(k:∀t w1 j body w2,(eZ W sc ls x t=true)→(aJ W sc ls it j=true)→(jM W sc ls b body=true)→P (.For (.Name t w1) j body [] w2)):P y0:=by
 refine sS hc λy1 j body y2 w2 hc=>?_
 refine bD hc λt w1 hc=>?_
 refine cg hc λhc=>?_
 exact k _ _ _ _ _ (lF hc) (gz hc) (aR hc)
@[elab_as_elim] theorem Ie{ys:_}{it:_}{b:_}{P:Stmt→Prop}{y0:Stmt}(hc:j4 W sc ls (.wz ys it b) y0=true)(k:∀elts w1 w2 j body w3,(jA W sc ls ys elts=true)→(aJ W sc ls it j=true)→(jM W sc ls b body=true)→P (.For (.Tuple elts w1 w2) j body [] w3)):P y0:=by
 refine sS hc λy1 j body y2 w3 hc=>?_
 refine oG hc λelts w1 w2 hc=>?_
 refine cg hc λhc=>?_
 exact k _ _ _ _ _ _ (lF hc) (gz hc) (aR hc)
@[elab_as_elim] theorem LC{P:Stmt→Prop}{y0:Stmt}(hc:j4 W sc ls .brk y0=true)(k:∀w1,P (.Break w1)):P y0:=by
 refine Ak hc λw1 hc=>?_
 exact k _
@[elab_as_elim] theorem Ig{P:Stmt→Prop}{y0:Stmt}(hc:j4 W sc ls .cont y0=true)(k:∀w1,P (.Continue w1)):P y0:=by
 refine uN hc λw1 hc=>?_
 exact k _
@[elab_as_elim] theorem AF{o:_}{k:_}{P:Stmt→Prop}{y0:Stmt}(hc:j4 W sc ls (.jm o k) y0=true)(k:∀b i w1 w2,(aJ W sc ls o b=true)→(aJ W sc ls k i=true)→P (.Delete [.Subscript b i w1] w2)):P y0:=by
 refine yp hc λy1 w2 hc=>?_
 refine cK hc λy2 y3 hc=>?_
 refine bU hc λb i w1 hc=>?_
 refine cg hc λhc=>?_
 exact k _ _ _ _ (aL hc) (aR hc)
end
section
variable {X:Ctx} {n:Nat} {xs:List Nat} {mg mb:Str→Option Value}
set_option tactic.hygienic true in
theorem FI {prog : Program} {w : World} {A : Around} {s : Shared} {K : Frag} {x C : Addr} {R : Result → Shared → Prop} {ox : Obj} {dx : Addr} {name : Str} {tk : Tok} {v : Value} {es : List DictEntry} {n : Nat} (X : K.In s.heap)
    (I : PySem.W.InstAt s.heap x ox C (some (PySem.W.dictOf es n))) (hd : ox.dict = some dx) (hp : plainOver K C = true) (ht : takerIn K C name = some none) (hh : (clsIn K C).any (·.hasDict) = true)
    (hD : s.heap.get? dx = some (PySem.W.dictOf es n)) (hl : (getL name es).isSome = true) (hz : (putL name (PyData.keyHash w.params name) (.str name s.toks) v es).length ≤ 1000)
    (h : R (.ok (.ret .none)) { s with heap := s.heap.update dx (Obj.putName name (PyData.keyHash w.params name) (.str name s.toks) v), toks := s.toks + 1 }) :
    codeAny (model prog w) A (.call (.builtin "object.__setattr__") ⟨[.ref x, .str name tk, v], []⟩) R s := by
  refine osa_open X I hp ht fun b => ?_
  refine aA (any_some hh) fun cd hc jg => ?_
  have e := putName_dict name (PyData.keyHash w.params name) (.str name s.toks) v es n
  have D' : (s.heap.update dx (Obj.putName name (PyData.keyHash w.params name) (.str name s.toks) v)).get? dx = some (PySem.W.dictOf (putL name (PyData.keyHash w.params name) (.str name s.toks) v es) (putN name es n)) := by
    refine uE e (?_)
    exact Heap.get?_update_self _ hD (by rw [e]; rfl)
  obtain ⟨hx, hcl, hn, -⟩ := I
  obtain ⟨oc, Zp, Zq, osl⟩ := ox
  dsimp only at hcl hd
  subst hcl hd
  refine au (aT (au (au (wpAny_loadPart hx (au ((looks_clsIn X hc).here ?_))))))
  refine ay jg (?_)
  refine aT (a := some dx) (au (aT (au ?_)))
  refine au (au (wpAny_askSetting (aT (au (wpAny_mkText (au (wpAny_loadPart hD ?_)))))))
  have c : (!es.toArray.any (·.key.isStr name) && es.toArray.any (·.refKey)) = false := by
    simp only [List.any_toArray]
    unfold getL at hl
    split at hl
    · rename_i en he
      rw [List.any_eq_true.mpr ⟨en, List.mem_of_find?_eq_some he, List.find?_some he⟩]; rfl
    · split at hl
      · exact nomatch hl
      · rename_i z; rw [Bool.not_eq_true] at z; rw [z, Bool.and_false]
  refine (?_ : wpAny _ _ (if aRefKeyMayBeTheName name es.toArray = true then _ else _) _ _ _)
  rw [aRefKeyMayBeTheName_at, c]
  refine wpAny_updatePart hD ?_
  refine au (wpAny_lookBehind D' (pastItsLine_dict (by rw [List.size_toArray, sizeLine_eq]; exact cP [_] 1 vA (.add (.num 16777216) (.num 1)) [.l 1 vA (.num 1000)] aI hz)) ?_)
  exact aT h
theorem mJ.put{μ:Mu}{h:Heap}{hsh:Int}{tk:Tok}{y:Value}{k:Nat}{v:V}(hinj:∀a b,a∈bW→b∈bW→X.NM a=X.NM b→a=b)(hk:k∈bW)(hv:VR X μ h v y):
  ∀{fs:List (Nat × V)}{ds:List DictEntry},mJ X μ h fs ds→fs.all (λf=>bW.contains f.1)=true→mJ X μ h (kF fs k v) (putL (X.NM k) hsh (.str (X.NM k) tk) y ds)∧(kF fs k v).all (λf=>bW.contains f.1)=true
 | [],ds,g,_=>by
  simp only[mJ] at g;subst g
  refine⟨?_,by simpa[kF] using hk⟩
  exact⟨_,_,rfl,⟨tk,rfl⟩,hv,rfl⟩
 |(a,u)::r,ds,g,ha=>by
  simp only[mJ] at g
  refine dY λG hG=>?_
  obtain⟨d,q,rfl,⟨t,hd⟩,h2,h3⟩:=g
  refine hG ?_
  simp only[List.all_cons,Bool.and_eq_true,List.contains_iff_mem] at ha
  by_cases e:a=k
  ·refine uE e ?_
   have:d.key.isStr (X.NM a)=true:=by rw[hd];simp[Value.isStr]
   simp only[kF,if_true,putL,this]
   exact⟨⟨_,_,rfl,⟨t,hd⟩,hv,h3⟩,by simp only[List.all_cons,Bool.and_eq_true,List.contains_iff_mem];exact ha⟩
  ·have:d.key.isStr (X.NM k)=false:=by
    refine ay hd (?_)
    exact iQ λz=>e (hinj _ _ ha.1 hk z)
   refine dF (mJ.put (tk:=tk) (hsh:=hsh) hinj hk hv h3 ha.2) λi1 i2=>?_
   simp only[kF,e,if_false,putL,this]
   exact⟨⟨_,_,rfl,⟨t,hd⟩,h2,i1⟩,by simp only[List.all_cons,Bool.and_eq_true,List.contains_iff_mem];exact⟨ha.1,i2⟩⟩
theorem mJ.length{μ:Mu}{h:Heap}:∀{fs:List (Nat × V)}{ds:List DictEntry},mJ X μ h fs ds→fs.length=ds.length
 | [],ds,g=>by simp only[mJ] at g;subst g;rfl
 |(a,u)::r,ds,g=>by
  refine mJ.eC g λd q _ _ h3=>?_
  simp[mJ.length h3]
theorem mJ.strs{μ:Mu}{h:Heap}:∀{fs:List (Nat × V)}{ds:List DictEntry},mJ X μ h fs ds→ds.any (·.refKey)=false
 | [],ds,g=>by simp only[mJ] at g;subst g;rfl
 |(a,u)::r,ds,g=>by
  simp only[mJ] at g
  refine dY λG hG=>?_
  obtain⟨d,q,rfl,⟨t,hd⟩,_,h3⟩:=g
  refine hG ?_
  refine ay List.any_cons (ay (mJ.strs h3) (?_))
  simp[DictEntry.refKey,hd]
theorem yV(fs:List (Nat × V))(k:Nat)(v:V):(kF fs k v).length≤fs.length+1:=by
 induction fs with
 |nil=>simp[kF]
 |cons a r ih=>
  obtain⟨a,u⟩:=a
  simp only[kF]
  split
  ·simp
  ·simp;exact ih
theorem tO(B:bE X mg mb){A:Around}{μ:Mu}{σ:aa}{s:Shared}(S:St X μ σ s){l c k:Nat}{fs:List (Nat × V)}{x y:Value}{v:V}(hx:VR X μ s.heap (.loc l) x)(ho:σ[l]? =some (.inst c fs))(hk:k∈bW)(aV:fs.length≤900)
  (hv:VR X μ s.heap v y){Q:Unit→Shared→Prop}{E:Value→Shared→Prop}(h:∀s',cU μ μ s.heap s'.heap→St X μ (σ.set l (.inst c (kF fs k v))) s'→Q () s'):wpAny (model X.prog X.w) A (setAttr x (X.NM k) y) Q E s:=by
 simp only[VR] at hx
 refine dY λG hG=>?_
 obtain⟨p,hp,rfl⟩:=hx
 have O:=S.obj l _ p ho hp
 refine HK O.sO λds m I hd hfr hc ha=>?_
 refine dF (id O) λbT _=>?_
 refine hG ?_
 have C:=B.cls c hc
 have XK:=B.kx S
 have I':PySem.W.InstAt s.heap p.1 (instObj (X.CA c) p.2) (X.CA c) (some (PySem.W.dictOf ds.toList m)):=I
 have jg:s.heap.get? p.2=some (PySem.W.dictOf ds.toList m):=hd
 have LD:=mJ.put (hsh:=PyData.keyHash X.w.params (X.NM k)) (tk:=s.toks+1) B.N3 hk hv hfr ha
 have Xf:(getL (X.NM k) ds.toList).isSome=true:=by
  unfold getL
  split
  ·rfl
  ·rw[hfr.strs];rfl
 have mh:=LD.1.length
 have hl3:=yV fs k v
 refine set_plain XK I' C.Rx (FI (s:={s with toks:=s.toks+1}) XK I' rfl C.plain (by unfold takerIn;rw[C.attrs k hk];rfl) C.hd jg Xf (by show(putL _ _ (.str _ (s.toks+1)) _ _).length≤1000;exact cP [_,_,_] 1 vA (.num 1000) [.l 1 vB (.num 900),.f 1 vC vA,.l 1 vC (.add vB (.num 1))] aI aV mh hl3) ?_)
 have Og:(s.heap.update p.2 (Obj.putName (X.NM k) (PyData.keyHash X.w.params (X.NM k)) (.str (X.NM k) (s.toks+1)) y)).get? p.2=some (PySem.W.dictOf (putL (X.NM k) (PyData.keyHash X.w.params (X.NM k)) (.str (X.NM k) (s.toks+1)) y ds.toList) (putN (X.NM k) ds.toList m)):=by
  rw[←putName_dict]
  exact Heap.get?_update_self _ jg (by rw[putName_dict];rfl)
 have LF:∀b,b≠p.2→(s.heap.update p.2 (Obj.putName (X.NM k) (PyData.keyHash X.w.params (X.NM k)) (.str (X.NM k) (s.toks+1)) y)).get? b=s.heap.get? b:=λb hb=>Heap.get?_update_other _ _ (Ne.symm hb)
 obtain⟨cu,E₃⟩:=S.turn (s':={s with heap:=s.heap.update p.2 (Obj.putName (X.NM k) (PyData.keyHash X.w.params (X.NM k)) (.str (X.NM k) (s.toks+1)) y),toks:=s.toks+1+1}) (o:= .inst c (kF fs k v)) hp (λb _ hb=>LF b hb)
  ⟨⟨_,(LF p.1 bT).trans I.1⟩,⟨_,Og⟩⟩ (λe=>⟨bT,_,_,(LF p.1 bT).trans I.1,Og,by rw[List.toList_toArray];exact LD.1.bI e,hc,LD.2⟩)
 exact h _ E₃ cu
theorem iC{K:Type} [DecidableEq K]{knd:KeyKind X.prog X.w K}{h:Heap}{a:Addr}{kvs:List (K × Value)}(d:h.DictOf knd a kvs):∃ds m,h.get? a=some (gF ds m):=by
 refine dY λG hG=>?_
 obtain⟨o,es,ep,ho,⟨x,y,z⟩,q,_⟩:=d
 refine hG ?_
 exact⟨es,ep,by rw[ho];obtain⟨c,d,dt,sl⟩:=o;dsimp only at x y z q;subst x y z q;rfl⟩
theorem rq{K:Type} [DecidableEq K]{knd:HeapKind X.prog X.w K}{h:Heap}{a:Addr}{kvs:List (K × Addr × Value)}(d:h.DictOfH knd a kvs):∃ds m,h.get? a=some (gF ds m):=by
 refine dY λG hG=>?_
 obtain⟨o,es,ep,ho,⟨x,y,z⟩,q,_⟩:=d
 refine hG ?_
 exact⟨es,ep,by rw[ho];obtain⟨c,d,dt,sl⟩:=o;dsimp only at x y z q;subst x y z q;rfl⟩
theorem St.tP{μ:Mu}{σ:aa}{s s':Shared}(S:St X μ σ s){l:Nat}{p:Addr × Addr}{k k':Nat}{es es':List (V × V)}(hp:μ[l]? =some p)(ho:σ[l]? =some (.dict k es))(hs:Heap.SameBut p.1 s.heap s'.heap)
  (hd:∃ds m,s'.heap.get? p.1=some (gF ds m))(hD:gG μ μ s.heap s'.heap→fy X μ s'.heap p.1 k' es')
  (hg:s'.gens=s.gens:=by rfl)(hos:s'.os=s.os:=by rfl):St X μ (σ.set l (.dict k' es')) s'∧cU μ μ s.heap s'.heap:=by
 refine dF (S.obj l _ p ho hp:OR X μ s.heap p (.dict k es)) λe2 D=>?_
 refine jo hd λds m g=>?_
 exact S.turn hp (λb hb _=>hs.2 b hb) ⟨⟨_,g⟩,⟨_,by rw[e2];exact g⟩⟩ (λe=>⟨e2,hD e⟩) hg hos
theorem AG(B:bE X mg mb){A:Around}{c:Nat}(hR:Room A c){μ:Mu}{σ:aa}{s:Shared}(S:St X μ σ s){l kd:Nat}{es:List (V × V)}{x y z:Value}{k v:V}(hx:VR X μ s.heap (.loc l) x)(ho:σ[l]? =some (.dict kd es))
  (hk0:kk k≠0)(hkd:kd=0∨kd=kk k)(aV:es.length<1000)(hk:VR X μ s.heap k y)(hv:VR X μ s.heap v z)
  {Q:Unit→Shared→Prop}{E:Value→Shared→Prop}(h:∀s',cU μ μ s.heap s'.heap→St X μ (σ.set l (.dict (kk k) (cA es k v))) s'→Q () s'):wpAny (model X.prog X.w) A (setItem x y z) Q E s:=by
 refine VR.qs hx λp hp=>?_
 refine dF (S.obj l _ p ho hp:OR X μ s.heap p (.dict kd es)) λe2 D=>?_
 rcases yI k with q|q|q|q
 ·exact absurd q hk0
 ·refine bK (tC q) λj bP=>?_
  subst bP
  refine aA (D.Ld hkd) λkvs D Pr=>?_
  refine VR.gf hk λt=>?_
  have hl:=Pr.length
  refine wpAny_setItem_pairs (knd:=PySem.intKind X.prog X.w) (k:=j) (by simp[PySem.intKind,Value.isInt]) D (λh' jg jF=>?_) (by rw[sizeLine_eq];exact cP [_,_] 1 vA (.num 16777216) [.s 1 vB (.num 1000),.f 1 vB vA] aI aV hl)
  obtain⟨cu,E₃⟩:=S.tP (s':={s with heap:=h',toks:=s.toks+1}) (k':=kk (.int j)) (es':=cA es (.int j) v) hp ho jF (iC jg) (λe=>by
   exact⟨_,jg,jb.put (rel:=sP) (k:= .int j) (j:=j) rfl (jD j) (VR.bI e _ _ hv) (Pr.mono λv x=>VR.bI e v x) (g7 D)⟩)
  exact h _ E₃ cu
 ·refine bK (tD q) λj bP=>?_
  subst bP
  obtain⟨kvs,D,Pr⟩:=D.RA hkd
  simp only[VR] at hk
  refine dY λG hG=>?_
  obtain⟨hj,t,rfl⟩:=hk
  refine hG ?_
  have hl:=Pr.length
  refine wpAny_setItem_pairs (knd:=PySem.strKind X.prog X.w) (k:=X.NM j) (by simp[PySem.strKind,Value.isStrOf]) D (λh' jg jF=>?_) (by rw[sizeLine_eq];exact cP [_,_] 1 vA (.num 16777216) [.s 1 vB (.num 1000),.f 1 vB vA] aI aV hl)
  obtain⟨cu,E₃⟩:=S.tP (s':={s with heap:=h',toks:=s.toks+1}) (k':=kk (.str j)) (es':=cA es (.str j) v) hp ho jF (iC jg) (λe=>by
   exact⟨_,jg,jb.put (rel:=rK X) (k:= .str j) (j:=X.NM j) ⟨j,hj,rfl,rfl⟩ (iV B hj) (VR.bI e _ _ hv) (Pr.mono λv x=>VR.bI e v x) (g7 D)⟩)
  exact h _ E₃ cu
 ·refine bK (EW q) λj bP=>?_
  subst bP
  rw[q] at hkd
  refine gC (D.N6 hkd) λys DY nd TY=>?_
  refine aA (pO hk) λad bP ik=>?_
  refine dY λG hG=>?_
  subst bP
  refine hG ?_
  have hl:=TY.length
  refine wpAny_setItem_heap (knd:=jc X.prog X.w) (k:=j) (by show A.in1.units+5<cLine;have:=hR.2.2;rw[Around.in1_units];exact ltN [_,_,_] 1 (.add (.add vA (.num 1)) (.num 5)) vB [.l 1 (.add (.add vA (.mulL 20 vC)) (.num 40)) vB] aI this) ik DY (λh' jg jF=>?_) (by rw[sizeLine_eq];exact cP [_,_] 1 vA (.num 16777216) [.s 1 vB (.num 1000),.f 1 vB vA] aI aV hl)
  obtain⟨cu,E₃⟩:=S.tP (s':={s with heap:=h',toks:=s.toks+(jc X.prog X.w).draws j}) (k':=kk (pn j)) (es':=cA es (pn j) v) hp ho jF (rq jg) (λe=>by
   refine ay q (?_)
   exact fy.UA jg ((TY.bI e).put (VR.bI e _ _ hk) (VR.bI e _ _ hv) nd))
  exact h _ E₃ cu
theorem AH{A:Around}{μ:Mu}{σ:aa}{s:Shared}(S:St X μ σ s){l:Nat}{vs:List V}{x z:Value}{i:Int}{t:Tok}{v:V}(hx:VR X μ s.heap (.loc l) x)(ho:σ[l]? =some (.list vs))(h0:0≤i)(UI:i<2 ^ 24)(hi:i.toNat<vs.length)(hv:VR X μ s.heap v z)
  {Q:Unit→Shared→Prop}{E:Value→Shared→Prop}(h:∀s',cU μ μ s.heap s'.heap→St X μ (σ.set l (.list (vs.set i.toNat v))) s'→Q () s'):wpAny (model X.prog X.w) A (setItem x (.int i t) z) Q E s:=by
 refine VR.qs hx λp hp=>?_
 obtain⟨e2,az,m,g,hvs⟩:OR X μ s.heap p (.list vs):=S.obj l _ p ho hp
 have hl:List.length _=_:=hvs.length
 simp only[gV] at hl
 have ho':s.heap.get? p.1=some (j7 az m):=g
 have hd:(j7 az m).data=.seq az m:=rfl
 have hT:s.TypeIs (.ref p.1) "list":=⟨_,g,rfl⟩
 unfold setItem
 try with_reducible refine cF ?_
 first|refine au (aT ?_)|skip
 refine au (wpAny_sequenceKey hT (rfl) ?_)
 refine au (wpAny_callSpecial?_slot (name:=Str.ofString "__setitem__") hT slot_list_setitem
  (wpAny_call_entry slot_list_setitem hT entry_list_setitem ?_ (args_list_setitem _ _ _)))
 show wpAny _ _ (Builtin.List.listSubscript? (.int i t)>>= _) _ _ s
 refine au (wpAny_listSubscript_int (fitsIndex_of h0 (Int.lt_trans UI (by decide))) ?_)
 clear UI
 obtain⟨j,rfl⟩:=Int.eq_ofNat_of_zero_le h0
 have hi':j<vs.length:=hi
 have hj:j<az.size:=by exact iN hi' hl
 have hx':az[j]? =some az[j]:=Array.getElem?_eq_getElem hj
 show wpAny _ _ ((seqItemAt p.1 j>>= λr=>pure (r.map (j,·)))>>= _) _ _ s
 refine au (au (wpAny_seqItemAt ho' hd (aT ?_)))
 refine ay hx' (?_)
 show wpAny _ _ (setSeqItemAt p.1 j z>>= _) _ _ s
 have hg':(s.heap.update p.1 (Obj.mapSeq (·.setIfInBounds j z))).get? p.1=some (j7 (az.setIfInBounds j z) (if(az.setIfInBounds j z).size==az.size then m else m+1)):=Heap.get?_update_self (Obj.mapSeq (·.setIfInBounds j z)) ho' rfl
 have jF:Heap.SameBut p.1 s.heap (s.heap.update p.1 (Obj.mapSeq (·.setIfInBounds j z))):=Heap.SameBut.update ..
 obtain⟨cu,E₃⟩:=S.turn (s':={s with heap:=s.heap.update p.1 (Obj.mapSeq (·.setIfInBounds j z))}) (o:= .list (vs.set j v)) hp (λb hb _=>jF.2 b hb) ⟨⟨_,hg'⟩,⟨_,by rw[e2];exact hg'⟩⟩
  (λe=>⟨e2,_,_,hg',by
   refine ay Array.toList_setIfInBounds (?_)
   exact(bN.bI e _ _ hvs).set j (VR.bI e _ _ hv)⟩)
 refine au (wpAny_setSeqItemAt ho' hd ?_)
 first
  |exact au (aT (aT ⟨.none,rfl,aT (h _ E₃ cu)⟩))
  |exact aT ⟨.none,rfl,aT (h _ E₃ cu)⟩
theorem kL.del{μ:Mu}{h:Heap}{j:Int × List Int}:∀{es:List (V × V)}{ds:BI}{i:Nat}{p:Addr × Value},kL X μ h es ds→(ds.map (·.1)).Nodup→ds[i]? =some (j,p)→kL X μ h (fU es (pn j)) (ds.eraseIdx i)
 | [],ds,i,p,g,_,hi=>by simp only[kL] at g;subst g;simp at hi
 |(a,u)::r,ds,i,p,g,hn,hi=>by
  refine Es g λj' c x q CP HW h1 h2 h3=>?_
  subst CP HW
  cases i with
  |zero=>
   simp only[List.getElem?_cons_zero,Option.some.injEq,Prod.mk.injEq] at hi
   obtain⟨rfl,_⟩:=hi
   simpa[fU] using h3
  |succ i=>
   simp only[List.getElem?_cons_succ] at hi
   have e0:¬pn j'=pn j:=λz=>(λz=>(fG hn).1 (z▸(List.mem_map.mpr ⟨_,iy hi,rfl⟩)):¬j'=j) (wV z)
   simp only[fU,e0,List.eraseIdx_cons_succ,kL]
   exact⟨j',c,x,_,rfl,rfl,h1,h2,kL.del h3 (fG hn).2 hi⟩
theorem qC{α β:Type}(f:α→β):∀(l:List α)(i:Nat),(l.map f).eraseIdx i=(l.eraseIdx i).map f
 | [],_=>rfl
 |_::_,0=>rfl
 |a::r,i+1=>by simp only[fm,List.eraseIdx_cons_succ,qC f r i]
theorem tQ{α:Type}:∀{l:List α}{i:Nat},l.Nodup→(l.eraseIdx i).Nodup:=λh=>h.sublist (List.eraseIdx_sublist ..)
theorem rN{prog:Program}{w:World}{K:Type} [DecidableEq K]{knd:HeapKind prog w K}{A:Around}{E:Value→Shared→Prop}{s:Shared}{d a:Addr}{ys:List (K × Addr × Value)}{k:K}{Q:Unit→Shared→Prop}(hu:knd.room A.in1)(hkey:knd.is s.heap k a)(hm:s.heap.DictOfH knd d ys)
  (l9:ys.length≤sizeLine)(hthere:atKey ys k≠none)
  (hQ:∀(i:Nat)(p:Addr × Value) h',ys[i]? =some (k,p)→h'.DictOfH knd d (ys.eraseIdx i)→Heap.SameBut d s.heap h'→Q () {s with heap:=h',toks:=s.toks+knd.draws k}):
  wpAny (model prog w) A (delItem (.ref d) (.ref a)) Q E s:=by
 have hT:=hm.typeIs
 refine Er hm λo es ep ho hc hd he his hn=>?_
 refine wpAny_delItem_slot hT (rfl) PySem.F.slot_dict_delitem (wpAny_call_entry PySem.F.slot_dict_delitem hT PySem.F.entry_dict_delitem ?_ (PySem.F.args_dict_delitem_2 _ _))
 refine au ?_
 refine au (wpAny_notOrdered_dict hT ?_)
 refine aT ?_
 refine(?_:wpAny _ _ (Builtin.Dict.takeOut d (.ref a)>>= _) _ _ s)
 refine au ?_
 unfold Builtin.Dict.takeOut
 try with_reducible refine cF ?_
 refine au (knd.pyHash hu hkey ?_)
 refine au (wpAny_dictFind_heap (s:={s with toks:=s.toks+knd.draws k}) hu hkey ho hd he his hn ?_ ?_)
 ·intro hno
  exact absurd (atKey_none_of_get hno) hthere
 ·intro j p hj
  refine au (wpAny_dictEntries (s:={s with toks:=s.toks+knd.draws k}) ho hd ?_)
  refine(entry_at he j)▸hj▸ ?_
  refine au (wpAny_updateDictKeys (hz:=by have e:=size_of_entries he;exact(cV (cG e) l9)) (s:={s with toks:=s.toks+knd.draws k}) ho hd (aT ?_))
  refine au (wpAny_letGo (aT ⟨.none,rfl,hQ j p _ hj ⟨_,_,ep+1,Heap.get?_update_self _ ho (Obj.isFreed_of_dict (Obj.data_mapDictKeys hd _)),
   hc.mapDictKeys _,Obj.data_mapDictKeys hd _,?_,?_,?_⟩ (Heap.SameBut.update ..)⟩))
  ·have:(es.eraseIdxIfInBounds j).toList=es.toList.eraseIdx j:=by
    obtain⟨l⟩:=es
    simp
   rw[this,he,qC]
  ·intro x hx
   exact knd.keeps (his x (List.mem_of_mem_eraseIdx hx)) ho hd (Heap.SameBut.update ..)
  ·rw[←qC];exact tQ hn
theorem pT{K:Type} [DecidableEq K]{rel:V→K→Prop}{vr:V→Value→Prop}{k:V}{j:K}(hk:rel k j)(inj:∀k' j',rel k' j'→(k'=k↔j'=j)){es:List (V × V)}{ds:List (K × Value)}(g:jb rel vr es ds)(h:(aQ es k).isSome=true):(valueAt ds j).isSome=true:=by
 refine bK (Option.isSome_iff_exists.mp h) λv hv=>?_
 refine aA ((jb.find inj g).1 v hv) λx hx _=>?_
 rw[hx];rfl
theorem AI(B:bE X mg mb){A:Around}{c:Nat}(hR:Room A c){μ:Mu}{σ:aa}{s:Shared}(S:St X μ σ s){l kd:Nat}{es:List (V × V)}{x y:Value}{k:V}(hx:VR X μ s.heap (.loc l) x)(ho:σ[l]? =some (.dict kd es))
  (hk0:kk k≠0)(hkd:kd=kk k)(aV:es.length≤1000)(RG:(aQ es k).isSome=true)(hk:VR X μ s.heap k y)
  {Q:Unit→Shared→Prop}{E:Value→Shared→Prop}(h:∀s',cU μ μ s.heap s'.heap→St X μ (σ.set l (.dict kd (fU es k))) s'→Q () s'):wpAny (model X.prog X.w) A (delItem x y) Q E s:=by
 refine VR.qs hx λp hp=>?_
 refine dF (S.obj l _ p ho hp:OR X μ s.heap p (.dict kd es)) λe2 D=>?_
 subst hkd
 rcases yI k with q|q|q|q
 ·exact absurd q hk0
 ·refine bK (tC q) λj bP=>?_
  subst bP
  refine aA (D.Ld (.inr rfl)) λkvs D Pr=>?_
  simp only[VR] at hk
  refine dY λG hG=>?_
  obtain⟨t,rfl⟩:=hk
  refine hG ?_
  have hl:=Pr.length
  refine wpAny_delItem_slot D.typeIs (by decide) PySem.F.slot_dict_delitem (call_meetsIn PySem.F.slot_dict_delitem D.typeIs PySem.F.entry_dict_delitem (PySem.F.args_dict_delitem_2 _ _) (meets_dict_delitem_pairs (PySem.intKind X.prog X.w) p.1 (k:=j) (by simp[PySem.intKind,Value.isInt])) ⟨kvs,D,(by rw[sizeLine_eq];exact cP [_,_] 1 vA (.num 16777216) [.l 1 vB (.num 1000),.f 1 vB vA] aI aV hl),pT (rel:=sP) (k:= .int j) (j:=j) rfl (jD j) Pr RG,λh' jg jF=>?_⟩)
  obtain⟨cu,E₃⟩:=S.tP (s':={s with heap:=h',toks:=s.toks+1}) (k':=kk (.int j)) (es':=fU es (.int j)) hp ho jF (iC jg) (λe=>by
   exact⟨_,jg,jb.del (rel:=sP) (k:= .int j) (j:=j) (jD j) (Pr.mono λv x=>VR.bI e v x) (g7 D)⟩)
  exact h _ E₃ cu
 ·refine bK (tD q) λj bP=>?_
  subst bP
  refine aA (D.RA (.inr rfl)) λkvs D Pr=>?_
  simp only[VR] at hk
  obtain⟨hj,t,rfl⟩:=hk
  have hl:=Pr.length
  refine wpAny_delItem_slot D.typeIs (by decide) PySem.F.slot_dict_delitem (call_meetsIn PySem.F.slot_dict_delitem D.typeIs PySem.F.entry_dict_delitem (PySem.F.args_dict_delitem_2 _ _) (meets_dict_delitem_pairs (PySem.strKind X.prog X.w) p.1 (k:=X.NM j) (by simp[PySem.strKind,Value.isStrOf])) ⟨kvs,D,(by rw[sizeLine_eq];exact cP [_,_] 1 vA (.num 16777216) [.l 1 vB (.num 1000),.f 1 vB vA] aI aV hl),pT (rel:=rK X) (k:= .str j) (j:=X.NM j) ⟨j,hj,rfl,rfl⟩ (iV B hj) Pr RG,λh' jg jF=>?_⟩)
  obtain⟨cu,E₃⟩:=S.tP (s':={s with heap:=h',toks:=s.toks+1}) (k':=kk (.str j)) (es':=fU es (.str j)) hp ho jF (iC jg) (λe=>by
   exact⟨_,jg,jb.del (rel:=rK X) (k:= .str j) (j:=X.NM j) (iV B hj) (Pr.mono λv x=>VR.bI e v x) (g7 D)⟩)
  exact h _ E₃ cu
 ·refine bK (EW q) λj bP=>?_
  subst bP
  rw[q] at D
  refine gC (D.N6 (.inr rfl)) λys DY nd TY=>?_
  refine aA (pO hk) λad bP ik=>?_
  refine ay bP ?_
  have hl:=TY.length
  refine rN (knd:=jc X.prog X.w) (k:=j) (by show A.in1.units+5<cLine;have:=hR.2.2;rw[Around.in1_units];exact ltN [_,_,_] 1 (.add (.add vA (.num 1)) (.num 5)) vB [.l 1 (.add (.add vA (.mulL 20 vC)) (.num 40)) vB] aI this) ik DY (by rw[sizeLine_eq];exact cP [_,_] 1 vA (.num 16777216) [.l 1 vB (.num 1000),.f 1 vB vA] aI aV hl) ?_ (λi pr h' hi jg jF=>?_)
  ·obtain⟨v,hv⟩:=Option.isSome_iff_exists.mp RG
   refine oA ((kL.find TY).1 v hv) λa x hx _=>?_
   rw[hx];exact nofun
  ·obtain⟨cu,E₃⟩:=S.tP (s':={s with heap:=h',toks:=s.toks+(jc X.prog X.w).draws j}) (k':=kk (pn j)) (es':=fU es (pn j)) hp ho jF (rq jg) (λe=>by
    refine ay q (?_)
    exact fy.UA jg ((TY.bI e).del nd hi))
   exact h _ E₃ cu
theorem iZ{v:Expr}(h:ow v=true)(t:Option Expr)(k:Nat)(env:PySem.Env):swapsWith v t k env=pure false:=by
 cases v<;>first|rfl|(cases h;done)
theorem tR(v o:Expr)(a:Str)(p:Pos)(k:Nat)(env:PySem.Env):swapsWith v (some (.Attribute o a p)) k env=pure false:=by
 cases v<;>rfl
theorem De(v o i:Expr)(p:Pos)(k:Nat)(env:PySem.Env):swapsWith v (some (.Subscript o i p)) k env=pure false:=by
 cases v<;>rfl
theorem FJ:SS X n xs .never:=by
 intro A env ls ρ σ fl ρ' τ μ s st hR hc F S he
 exact fY he
theorem LG:SS X n xs .brk:=by
 intro A env ls ρ σ fl ρ' τ μ s st hR hc F S he Q E hQ
 refine LC hc λ_=>?_
 exact wpAny_Break ((hQ.of he) _ _ _ .refl S F rfl)
theorem Ih:SS X n xs .cont:=by
 intro A env ls ρ σ fl ρ' τ μ s st hR hc F S he Q E hQ
 refine Ig hc λ_=>?_
 exact wpAny_Continue ((hQ.of he) _ _ _ .refl S F rfl)
theorem gP.interactive{env:PySem.Env}{ls:List (Option Nat)}{ρ:Env}{μ:Mu}{h:Heap}(F:gP X env ls ρ μ h):interactive env=false:=by
 unfold PySem.interactive
 have:=F.kind
 first
  |(rw[this];rfl)
  |(rw[this];simp)
theorem Ii{e:ME}(he':SE X n xs e):SS X n xs (.expr e):=by
 intro A env ls ρ σ fl ρ' τ μ s st hR hc F S he Q E hQ
 refine bw he λv σ1 h1 he=>?_
 dsimp only at he
 refine Ae he λbP he=>?_
 subst bP
 refine Ib hc λv' p hc1 hc2=>?_
 refine wpAny_Expr (he' A env ls ρ σ _ _ μ s _ hR hc2 F S h1 _ _ λao x s₁ E₁ S₁ aU=>?_) F.interactive (iZ hc1 _ _ _)
 refine VR.yl aU ?_
 exact(hQ.of he) _ _ _ E₁.l S₁ (F.mono E₁) rfl
theorem LH{e:ME}(he':SE X n xs e):SS X n xs (.ret e):=by
 intro A env ls ρ σ fl ρ' τ μ s st hR hc F S he Q E hQ
 refine Ad he λv σ1 h1 e1=>?_
 refine LA hc λv' p hc=>?_
 exact wpAny_Return_some (he' A env ls ρ σ _ _ μ s _ hR hc F S h1 _ _ λao x s₁ E₁ S₁ aU=>(hQ.oq e1) _ _ _ E₁.l S₁ (F.mono E₁) ⟨x,rfl,aU⟩)
theorem Df(B:bE X mg mb){x:Nat}{e:ME}(he':SE X n xs e):SS X n xs (.assign x e):=by
 intro A env ls ρ σ fl ρ' τ μ s st hR hc F S he Q E hQ
 refine Ad he λv σ1 h1 e1=>?_
 refine qB hc λt p v' q hc1 hc2 hc3=>?_
 refine wpAny_Assign_Name (he' A env ls ρ σ _ _ μ s _ hR hc3 F S h1 _ _ λao y s₁ E₁ S₁ aU=>?_) (iZ hc2 _ _ _)
 exact kZ B (F.mono E₁) S₁ aU hc1 λs₂ E₂ S₂ yW _=>(hQ.oq e1) _ _ _ (E₁.l.trans E₂) S₂ yW rfl
theorem AJ(B:bE X mg mb){o e:ME}(k:Nat)(ho:SE X n xs o)(he':SE X n xs e):SS X n xs (.setattr o k e):=by
 intro A env ls ρ σ fl ρ' τ μ s st hR hc F S he Q E hQ
 refine bw he λv σ1 h1 he=>?_
 dsimp only at he
 refine bw he λu σ2 h2 he=>?_
 dsimp only at he
 refine tN hc λb a p v' q c1 c2 c3 c4=>?_
 subst c1
 refine plainObj_wpAny_Assign_Attribute (he' A env ls ρ σ _ _ μ s _ hR c4 F S h1 _ _ λao y s₁ E₁ S₁ aU=>?_) (tR _ _ _ _ _ _)
 refine ho A env ls ρ σ1 _ _ ao s₁ _ hR c3 (F.mono E₁) S₁ h2 _ _ λbB z s₂ E₂ S₂ cZ=>?_
 refine aA (map_some he) λyX hf e4=>?_
 clear h2 he
 refine qW hf λl bP hf1=>?_
 clear hf he
 subst bP
 refine z8 hf1 λc fs hl hf2=>?_
 refine fJ hf2 λaV Ij=>?_
 clear hf2 hf1 he
 obtain rfl:=aX Ij
 exact tO B S₂ cZ hl c2 aV (VR.mono E₂ aU) λs₃ E₃ cu=>(hQ.oq e4) _ _ _ ((E₁.trans E₂).trans E₃).l cu (F.mono ((E₁.trans E₂).trans E₃)) rfl
theorem AK(B:bE X mg mb){o k e:ME}(ho:SE X n xs o)(hk:SE X n xs k)(he':SE X n xs e):SS X n xs (.aS o k e):=by
 intro A env ls ρ σ fl ρ' τ μ s st hR hc F S he Q E hQ
 refine dY λG hG=>?_
 refine bw he λv σ1 h1 he=>?_
 dsimp only at he
 refine bw he λu σ2 h2 he=>?_
 dsimp only at he
 refine bw he λkv σ3 h3 he=>?_
 refine hG ?_
 dsimp only at he
 refine AE hc λb i p v' q c1 c2 c3=>?_
 refine wpAny_Assign_Subscript (he' A env ls ρ σ _ _ μ s _ hR c3 F S h1 _ _ λao y s₁ E₁ S₁ aU=>?_) (De _ _ _ _ _ _)
 refine ho A env ls ρ σ1 _ _ ao s₁ _ hR c1 (F.mono E₁) S₁ h2 _ _ λbB z s₂ E₂ S₂ cZ=>?_
 refine hk A env ls ρ σ2 _ _ bB s₂ _ hR c2 (F.mono (E₁.trans E₂)) S₂ h3 _ _ λdP w s₃ E₃ cu kg=>?_
 refine aA (map_some he) λyX hf e4=>?_
 clear h3 h2 he
 refine qW hf λl bP hf1=>?_
 clear hf hG he
 subst bP
 refine Rt hf1 (λkd es hl hf2=>?_) (λvs hl hf2=>?_)
 ·refine CH hf2 λhz Ij=>?_
  refine fJ Ij λaV Nb=>?_
  clear hf1 he
  obtain rfl:=aX Nb
  exact AG B hR cu (VR.mono E₃ cZ) hl (λe=>hz (.inl e)) (Decidable.not_not.mp λe=>hz (.inr e)) aV kg (VR.mono (E₂.trans E₃) aU) λs₄ gk iA=>
   (hQ.oq e4) _ _ _ (((E₁.trans E₂).trans E₃).trans gk).l iA (F.mono (((E₁.trans E₂).trans E₃).trans gk)) rfl
 ·refine kE hf2 λi' bP Ij=>?_
  clear hf2 hf1 he
  subst bP
  refine aA (bind_some Ij) λj hj Nb=>?_
  refine fJ Nb λaV UJ=>?_
  clear Nb Ij he
  obtain rfl:=aX UJ
  refine fJ hj λhr hj=>?_
  clear UJ
  obtain rfl:=aX hj
  refine VR.gf kg λt=>?_
  exact AH cu (VR.mono E₃ cZ) hl hr.1 hr.2 aV (VR.mono (E₂.trans E₃) aU) λs₄ gk iA=>
   (hQ.oq e4) _ _ _ (((E₁.trans E₂).trans E₃).trans gk).l iA (F.mono (((E₁.trans E₂).trans E₃).trans gk)) rfl
theorem AL(B:bE X mg mb){o k:ME}(ho:SE X n xs o)(hk:SE X n xs k):SS X n xs (.jm o k):=by
 intro A env ls ρ σ fl ρ' τ μ s st hR hc F S he Q E hQ
 refine bw he λu σ2 h2 he=>?_
 refine bw he λkv σ3 h3 he=>?_
 dsimp only at he
 refine AF hc λb i p q c1 c2=>?_
 refine wpAny_Delete (wpAny_deleteEach_cons (wpAny_delete_Subscript ?_))
 refine ho A env ls ρ σ _ _ μ s _ hR c1 F S h2 _ _ λbB z s₂ E₂ S₂ cZ=>?_
 refine hk A env ls ρ σ2 _ _ bB s₂ _ hR c2 (F.mono E₂) S₂ h3 _ _ λdP w s₃ E₃ cu kg=>?_
 refine aA (map_some he) λyX hf e4=>?_
 clear h2 he
 refine qW hf λl bP hf1=>?_
 clear hf he
 subst bP
 refine oB hf1 λkd es hl hf2=>?_
 refine CH hf2 λhz Ij=>?_
 refine fJ Ij λaV Nb=>?_
 clear Ij hf2 hf1 he
 obtain rfl:=aX Nb
 exact AI B hR cu (VR.mono E₃ cZ) hl (λe=>hz (.inl e)) (Decidable.not_not.mp λe=>hz (.inr e)) aV.2 aV.1 kg λs₄ gk iA=>
   wpAny_deleteEach_nil ((hQ.oq e4) _ _ _ ((E₂.trans E₃).trans gk).l iA (F.mono ((E₂.trans E₃).trans gk)) rfl)
theorem kY.more{env:PySem.Env}{ls:List (Option Nat)}{μ ao:Mu}{s s₁:Shared}{fl:Fl}{ρ':Env}{τ:aa}{Q:Flow→Shared→Prop}(hQ:kY X env ls μ s fl ρ' τ Q)(E₁:ef env.locals μ ao s.heap s₁.heap):kY X env ls ao s₁ fl ρ' τ Q:=
 λbA f s' E S F R=>hQ bA f s' (E₁.trans E) S F R
theorem LI{t:ME}{a b:List MS}(ht:ST X n xs t)(ha:SB X n xs a)(hb:SB X n xs b):SS X n xs (.ite t a b):=by
 intro A env ls ρ σ fl ρ' τ μ s st hR hc F S he Q E hQ
 refine bw he λv σ1 h1 he=>?_
 refine aA (bind_some he) λc h2 he=>?_
 refine LB hc λc' x y p hc1 hc2 hc3=>?_
 refine wpAny_If (ht A env ls ρ σ _ _ _ μ s _ hR hc1 F S h1 h2 _ _ λao s₁ E₁ S₁=>?_)
 cases c with
 |true=>exact ha A env ls ρ σ1 _ _ _ ao s₁ _ hR hc2 (F.mono E₁) S₁ he _ _ (hQ.more E₁.l)
 |false=>exact hb A env ls ρ σ1 _ _ _ ao s₁ _ hR hc3 (F.mono E₁) S₁ he _ _ (hQ.more E₁.l)
theorem LJ:SB X n xs []:=by
 intro A env ls ρ σ fl ρ' τ μ s sts hR hc F S he Q E hQ
 cases List.isEmpty_iff.mp hc
 exact wpAny_execs_nil ((hQ.of he) _ _ _ .refl S F rfl)
theorem iD{W:qU}{sc:Scope}{ls:List (Option Nat)}{m:MS}{r:List MS}{y:List Stmt}(h:jM W sc ls (m::r) y=true):∃st q,y=st::q∧j4 W sc ls m st=true∧jM W sc ls r q=true:=by
 cases y with
 |nil=>exact nB h
 |cons st q=>exact⟨st,q,rfl,aL h,aR h⟩
theorem Ik{m:MS}{r:List MS}(hm:SS X n xs m)(hr:SB X n xs r):SB X n xs (m::r):=by
 intro A env ls ρ σ fl ρ' τ μ s sts hR hc F S he Q E hQ
 obtain⟨⟨f1,oN,σ1⟩,h1,he⟩:=bind_some he
 dsimp only at he
 refine fj (iD hc) λst q cW hc1 hc2=>?_
 clear hc
 refine ay cW ?_
 ·
  refine wpAny_execs_cons (hm A env ls ρ σ _ _ _ μ s _ hR hc1 F S h1 _ _ λao f s₁ E₁ S₁ F₁ iE=>?_)
  cases f1 with
  |next=>
   simp only[x9] at iE;subst iE
   exact hr A env ls oN σ1 _ _ _ ao s₁ _ hR hc2 F₁ S₁ he _ _ (hQ.more E₁)
  |brk=>
   cases he
   have xm:=iE
   simp only[x9] at iE;subst iE
   exact hQ _ _ _ E₁ S₁ F₁ xm
  |cont=>
   cases he
   have xm:=iE
   simp only[x9] at iE;subst iE
   exact hQ _ _ _ E₁ S₁ F₁ xm
  |ret v=>
   refine aA iE λx bP _=>?_
   subst bP
   exact(hQ.of he) _ _ _ E₁ S₁ F₁ (iE)
theorem xo{μ:Mu}{h:Heap}(i:Int)(t:Tok):VR X μ h (.int i) (.int i t):=by simp only[VR];exact⟨t,rfl⟩
theorem FL{op:Op}{v u w:V}{G:Prop}(h:Ex op v u=some w)(k:∀a b,op=.add→v=.int a→u=.int b→.int (a+b)=w→G):G:=by
 cases op<;>first|exact fY h|skip
 cases v<;>first|exact fY h|skip
 cases u<;>first|exact fY h|exact k _ _ rfl rfl rfl (aX h)
theorem LL(B:bE X mg mb){x:Nat}{op:Op}{e:ME}(he':SE X n xs e):SS X n xs (.aug x op e):=by
 intro A env ls ρ σ fl ρ' τ μ s st hR hc F S he Q E hQ
 refine KZ he λv hv he=>?_
 refine bw he λu σ1 h1 he=>?_
 refine dY λG hG=>?_
 refine aA (map_some he) λw' hf e4=>?_
 clear he
 refine FL hf λa b bP cW yJ CP=>?_
 clear hf he
 subst bP cW yJ CP
 refine hG ?_
 refine Lz hc λt p o v' q c1 c2 c3=>?_
 have Hy:=c1
 simp only[eZ,Bool.and_eq_true,beq_iff_eq] at Hy
 obtain⟨d1,d2⟩:=Hy
 refine K7 d1 λk hk d1=>?_
 have ht:X.NM k=t:=cz d1
 clear d1 hG G he hc st
 subst ht
 refine aA F.ns λm hn hm=>?_
 have ho:o=.Add:=(dw c2).symm
 refine ay ho ?_
 refine wpAny_AugAssign_Name ?_
 rcases hm x k _ hk hv with⟨_,y,z,w⟩|⟨r,_⟩
 ·refine wpAny_loadName_local F.kind d2 hn z ?_
  refine he' A env ls ρ σ _ _ μ s _ hR c3 F S h1 _ _ λao y₁ s₁ E₁ S₁ aU=>?_
  simp only[VR] at w aU
  obtain⟨t1,rfl⟩:=w
  obtain⟨t2,rfl⟩:=aU
  refine P.iadd_int ?_
  refine kZ (s:={s₁ with toks:=s₁.toks+1}) B (F.mono E₁) (S₁.tok _) (xo _ _) c1 λs₂ E₂ S₂ yW _=>?_
  exact(hQ.oq e4) _ _ _ (E₁.l.trans E₂) S₂ yW rfl
 ·have Xg:env.kindOf (X.NM k)=some .local:=d2
  rcases r with r|⟨r,_⟩<;>rw[Xg] at r<;>cases r
theorem bN.rev{μ:Mu}{h:Heap}:∀{v:List V}{x:List Value},bN X μ h v x→bN X μ h v.reverse x.reverse
 | [],x,g=>by simp only[bN] at g;subst g;simp[bN]
 |v::r,x,g=>by
  refine bN.eC g λy q a b=>?_
  refine ay List.reverse_cons (ay List.reverse_cons (?_))
  exact(bN.rev b).app (by simp only[bN];exact⟨y,[],rfl,a,rfl⟩)
noncomputable def RH(X:Ctx)(xs:List Nat)(A:Around)(env:PySem.Env)(ls:List (Option Nat))(y:Nat)(act:Value→Sem Unit):Prop:=
 ∃t,eZ ⟨X.NM,xs⟩ env.scope ls y t=true∧∀v Q E s,wpAny (model X.prog X.w) A (storeName env t v) Q E s→wpAny (model X.prog X.w) A (act v) Q E s
noncomputable def ig(X:Ctx)(xs:List Nat)(A:Around)(env:PySem.Env)(ls:List (Option Nat)):List Nat→List (Value→Sem Unit)→Prop
 | [],as=>as=[]
 |y::r,as=>∃a q,as=a::q∧RH X xs A env ls y a∧ig X xs A env ls r q
theorem ig.app{A:Around}{env:PySem.Env}{ls:List (Option Nat)}:∀{ys zs:List Nat}{as bs:List (Value→Sem Unit)},ig X xs A env ls ys as→ig X xs A env ls zs bs→ig X xs A env ls (ys++zs) (as++bs)
 | [],zs,as,bs,g,e=>by simp only[ig] at g;subst g;exact e
 |v::r,zs,as,bs,g,e=>by
  refine fj g λz q cW a b=>?_
  refine ay cW ?_
  exact⟨z,q++bs,rfl,a,ig.app b e⟩
theorem ig.rev{A:Around}{env:PySem.Env}{ls:List (Option Nat)}:∀{ys:List Nat}{as:List (Value→Sem Unit)},ig X xs A env ls ys as→ig X xs A env ls ys.reverse as.reverse
 | [],as,g=>by simp only[ig] at g;subst g;simp[ig]
 |v::r,as,g=>by
  refine fj g λy q cW a b=>?_
  refine ay cW ?_
  refine ay List.reverse_cons (ay List.reverse_cons (?_))
  exact(ig.rev b).app (by simp only[ig];exact⟨y,[],rfl,a,rfl⟩)
theorem ru(x:Nat)(v:V):∀(ys:List Nat)(vs:List V)(ρ:Env),cY ρ (ys++[x]) (vs++[v])=(cY ρ ys vs).map (·.set x (some v))
 | [],[],ρ=>rfl
 | [],u::q,ρ=>by cases q<;>rfl
 |y::r,[],ρ=>by cases r<;>rfl
 |y::r,u::q,ρ=>ru x v r q _
theorem ry(x:Nat)(v:V):∀(ys:List Nat)(vs:List V)(ρ:Env),x∉ys→cY (ρ.set x (some v)) ys vs=(cY ρ ys vs).map (·.set x (some v))
 | [],[],ρ,_=>rfl
 | [],u::q,ρ,_=>rfl
 |y::r,[],ρ,_=>rfl
 |y::r,u::q,ρ,h=>by
  simp only[List.mem_cons,not_or] at h
  simp only[cY]
  refine ay (List.set_comm _ _ h.1) ?_
  exact ry x v r q _ h.2
theorem tS:∀(ys:List Nat)(vs:List V)(ρ ρ':Env),ys.Nodup→cY ρ ys vs=some ρ'→cY ρ ys.reverse vs.reverse=some ρ'
 | [],[],ρ,ρ',_,e=>e
 | [],u::q,ρ,ρ',_,e=>by cases e
 |y::r,[],ρ,ρ',_,e=>by cases e
 |y::r,u::q,ρ,ρ',h,e=>by
  simp only[cY] at e
  rw[ry y u r q ρ (fG h).1] at e
  refine aA (map_some e) λoN h1 e1=>?_
  rw[List.reverse_cons,List.reverse_cons,ru,tS r q ρ oN (fG h).2 h1,←e1]
  rfl
theorem nA(B:bE X mg mb){A:Around}{env:PySem.Env}{ls:List (Option Nat)}:∀{ys:List Nat}{vs:List V}{as:List (Value→Sem Unit)}{vals:List Value}{ρ ρ':Env}{μ:Mu}{σ:aa}{s:Shared},gP X env ls ρ μ s.heap→St X μ σ s→
  ig X xs A env ls ys as→bN X μ s.heap vs vals→cY ρ ys vs=some ρ'→∀{Q:Unit→Shared→Prop}{E:Value→Shared→Prop},(∀s',ef env.locals μ μ s.heap s'.heap→St X μ σ s'→gP X env ls ρ' μ s'.heap→Q () s')→
  wpAny (model X.prog X.w) A (assignInOrder as vals) Q E s
 | [],vs,as,vals,ρ,ρ',μ,σ,s,F,S,ha,hv,he,Q,E,h=>by
  cases vs with
  |nil=>
   simp only[cY] at he
   obtain rfl:=aX he
   simp only[ig] at ha
   subst ha
   exact aT (h s .refl S F)
  |cons a r=>cases he
 |y::r,vs,as,vals,ρ,ρ',μ,σ,s,F,S,ha,hv,he,Q,E,h=>by
  cases vs with
  |nil=>cases he
  |cons u q=>
   simp only[cY] at he
   simp only[ig] at ha
   obtain⟨a,as',rfl,⟨t,h1,h2⟩,h3⟩:=ha
   refine bN.eC hv λz vals' h4 h5=>?_
   refine au (cF (h2 _ _ _ _ (kZ B F S h4 h1 λs₁ E₁ S₁ F₁ RI=>?_)))
   have Oh:bN X μ s₁.heap q vals':=by
    have:∀(l:List V)(m:List Value),bN X μ s.heap l m→bN X μ s₁.heap l m:=by
     intro l
     induction l with
     |nil=>intro m g;simpa only[bN] using g
     |cons a r ih=>
      intro m g
      refine bN.eC g λy k g1 g2=>?_
      exact⟨y,k,rfl,RI _ _ g1,ih _ g2⟩
    exact this _ _ h5
   exact nA B F₁ S₁ h3 Oh he λs' E' S' F'=>h s' (E₁.trans E') S' F'
noncomputable def rz:List Expr→List Str
 | []=>[]
 | .Name t _::r=>t::rz r
 |_::r=>rz r
set_option tactic.hygienic true in
theorem kh {A : Around} {env : PySem.Env} {ls : List (Option Nat)} : ∀ {ys : List Nat} {es : List Expr}, jA ⟨X.NM, xs⟩ env.scope ls ys es = true →
    ig X xs A env ls ys ((assignEach es env).map (·.2)) ∧ (assignEach es env).length = ys.length ∧ (assignEach es env).findIdx? (·.1) = none ∧ ig X xs A env ls ys ((rz es).map fun t => bindName env t) ∧ (rz es).length = es.length ∧ es.length = ys.length ∧ ys.Nodup
  | [], es, h => by
    obtain rfl := List.isEmpty_iff.mp h
    exact ⟨rfl, rfl, rfl, rfl, rfl, rfl, List.nodup_nil⟩
  | y :: r, es, h => by
    cases es with
    | nil => exact nB h
    | cons e q =>
    cases e <;> first | exact nB h | skip
    rename_i t p
    refine dF (bZ h) fun h h3 => ?_
    refine dF (bZ h) fun h1 h2 => ?_
    refine Ep (kh (A := A) h3) fun i1 i2 i3 i4 i5 i6 i7 => ?_
    refine ⟨⟨_, _, rfl, ⟨t, h1, fun v Q E s hw => PyProof.Rows.assign_Name hw⟩, i1⟩, aj Nat.succ i2, ?_, ⟨_, _, rfl, ⟨t, h1, fun v Q E s hw => wpAny_bindName hw⟩, i4⟩, aj Nat.succ i5, aj Nat.succ i6, List.nodup_cons.mpr ⟨fun hm => ?_, i7⟩⟩
    · show (List.findIdx? _ ((false, assign (.Name t p) env) :: assignEach q env)) = none
      rw [List.findIdx?_cons, i3]; rfl
    · have := List.contains_iff_mem.mpr hm
      rw [this] at h2; exact nB h2
theorem FN{g:Expr→Option Str}(hg:∀e t,g e=some t→∃p,e=.Name t p):∀{l:List Expr},(l.filterMap g).length≤l.length∧((l.filterMap g).length=l.length→l.filterMap g=rz l)
 | []=>⟨bS _,λ_=>rfl⟩
 |a::r=>by
  refine dF (FN hg (l:=r)) λi1 i2=>?_
  refine ay List.filterMap_cons ?_
  cases h:g a with
  |none=>exact⟨by simp only[List.length_cons];exact cP [_,_] 1 vA (.add vB (.num 1)) [.l 1 vA vB] aI i1,λe=>by simp only[List.length_cons] at e;omega⟩
  |some t=>
   refine bK (hg a t h) λp bP=>?_
   refine ay bP ?_
   simp only[List.length_cons,rz]
   exact⟨Nat.lt_succ_of_le ‹_›,λe=>by rw[i2 (by exact dH (cP [_,_] 1 vA vB [.e 1 (.add vA (.num 1)) (.add vB (.num 1))] aI e) (cP [_,_] 1 vA vB [.f 1 (.add vB (.num 1)) (.add vA (.num 1))] aI e))]⟩
theorem yY{α:Type _}{c:Prop} [Decidable c]{x y a b:α}(h1:c→x=a∨x=b)(h2:¬c→y=a∨y=b):(if c then x else y)=a∨(if c then x else y)=b:=
 if h:c then(aC h (t:=x) (e:=y)).symm▸h1 h else(aB h (t:=x) (e:=y)).symm▸h2 h
set_option tactic.hygienic true in
theorem AM {elts : List Expr} {k : Nat} {tpos : Pos} {value : Expr} (env : PySem.Env) (h : Aa value = true) :
    swappedStores [.Tuple elts k tpos] value env = pure none ∨ swappedStores [.Tuple elts k tpos] value env = pure (some (rz elts)) := by
  cases value <;> first | exact .inl rfl | skip
  rename_i vs k2 p2
  refine yY (fun _ => .inl rfl) fun _ => yY (fun _ => .inl rfl) fun _ => yY (fun _ => .inl rfl) fun hq => yY (fun _ => .inl rfl) fun hf => yY (fun hc => ?_) fun _ => .inr ?_
  · exact (Bool.or_eq_true_iff.mp h).elim (fun h => absurd h hf) fun h => nB ((Bool.not_eq_eq_eq_not.mp h).symm.trans hc)
  · have q1 := Bool.eq_false_iff.mpr fun e => hq (Bool.or_eq_true_iff.mpr (.inl e))
    refine aj (fun l => pure (some l)) ((FN fun e t he => ?_).2 (bne_eq_false_iff_eq.mp q1))
    cases e <;> first | exact fY he | skip
    refine fJ he fun _ he => ?_
    cases he; exact ⟨_, rfl⟩
theorem Dh(B:bE X mg mb)(ys:List Nat){e:ME}(he':SE X n xs e):SS X n xs (.unpack ys e):=by
 intro A env ls ρ σ fl ρ' τ μ s st hR hc F S he Q E hQ
 refine bw he λv σ1 h1 he=>?_
 dsimp only at he
 refine Et he λl bP he=>?_
 subst bP
 refine aA (map_some he) λoN h2 e2=>?_
 clear he
 refine Dd hc λelts k tp v' q c1 c2 c3 c4=>?_
 refine Ep (kh (A:=A) c1) λi1 i2 i3 i4 i5 i6 i7=>?_
 have J9:swapsWithSole [.Tuple elts k tp] v' q.line env=pure false:=by
  refine(?_:swapsWith v' (some (.Tuple elts k tp)) q.line env=pure false)
  exact iZ c3 _ _ _
 have aV:∀(ys:List Nat)(l:List V)(ρ ρ':Env),cY ρ ys l=some ρ'→ys.length=l.length:=by
  intro ys
  induction ys with
  |nil=>intro l ρ ρ' e;cases l with
   |nil=>rfl
   |cons a r=>cases e
  |cons y r ih=>intro l ρ ρ' e;cases l with
   |nil=>cases e
   |cons a q=>simp only[List.length_cons,ih q _ _ e]
 have hl:=aV _ _ _ _ h2
 rcases AM (elts:=elts) (k:=k) (tpos:=tp) env c2 with hw|hw
 ·refine PyProof.Rows.Assign_Tuple (he' A env ls ρ σ _ _ μ s _ hR c4 F S h1 _ _ λao y s₁ E₁ S₁ aU=>?_) J9 hw
  simp only[VR] at aU
  refine jN aU λa az m yJ no g hv=>?_
  subst yJ
  have mh:List.length _=_:=hv.length
  simp only[gV] at mh
  have ht:s₁.heap.IsTuple a az:=⟨_,g,rfl,_,rfl⟩
  refine wpAny_assign_Tuple hR.1 ht (by exact dH ((cG (Eq.trans (Eq.trans i2 hl) mh))) ((cG (Eq.trans (Eq.trans (Eq.symm mh) (Eq.symm hl)) (Eq.symm i2))))) i3 λh' hx=>?_
  have kk:∀b o,s₁.heap.get? b=some o→h'.get? b=some o:=λb o g=>hx b o (Nat.ne_of_lt (dh g)) g
  have E₂:cU ao ao s₁.heap h':=cU.more kk
  refine nA B (F.mono (E₁.trans E₂)) (S₁.more (s':={s₁ with heap:=h'}) kk) i1 (bN.mono E₂ hv) h2 λs₃ E₃ cu FO=>?_
  exact(hQ.oq e2) _ _ _ ((E₁.trans E₂).l.trans E₃) cu FO rfl
 ·refine PyProof.Rows.Assign_Tuple_swapped (he' A env ls ρ σ _ _ μ s _ hR c4 F S h1 _ _ λao y s₁ E₁ S₁ aU=>?_) J9 hw
  simp only[VR] at aU
  refine jN aU λa az m yJ no g hv=>?_
  subst yJ
  have mh:List.length _=_:=hv.length
  simp only[gV] at mh
  have:(rz elts).length=az.size:=by exact dH ((cG (Eq.trans (Eq.trans (Eq.trans i5 i6) hl) mh))) ((cG (Eq.trans (Eq.trans (Eq.trans (Eq.symm mh) (Eq.symm hl)) (Eq.symm i6)) (Eq.symm i5))))
  refine this▸ ?_
  refine wpAny_unpackItems_tuple hR.1 (⟨_,g,rfl,_,rfl⟩) λh' hx=>?_
  have kk:∀b o,s₁.heap.get? b=some o→h'.get? b=some o:=λb o g=>hx b o (Nat.ne_of_lt (dh g)) g
  have E₂:cU ao ao s₁.heap h':=cU.more kk
  refine ay List.map_reverse (?_)
  refine nA B (F.mono (E₁.trans E₂)) (S₁.more (s':={s₁ with heap:=h'}) kk) i4.rev (bN.mono E₂ hv).rev (tS _ _ _ _ i7 h2) λs₃ E₃ cu FO=>?_
  exact(hQ.oq e2) _ _ _ ((E₁.trans E₂).l.trans E₃) cu FO rfl
end
structure k7(a I:Addr)(μ bA:Mu)(h h':Heap):Prop where
 pre:∃t,bA=μ++t∧∀p∈t,h.get? p.1=none∧h.get? p.2=none
 keep:∀b o,b≠a→b≠I→¬bL μ b→h.get? b=some o→h'.get? b=some o
 alive:∀b o,h.get? b=some o→∃o',h'.get? b=some o'
theorem ef.i{a:Addr}(I:Addr){μ bA:Mu}{h h':Heap}(e:ef a μ bA h h'):k7 a I μ bA h h':=⟨e.pre,λb o z _ n g=>e.keep b o z n g,λb o g=>e.alive g⟩
theorem k7.dead{a I:Addr}{μ bA:Mu}{h h':Heap}(e:k7 a I μ bA h h'){b:Addr}(g:h'.get? b=none):h.get? b=none:=by
 cases q:h.get? b with
 |none=>rfl
 |some o=>obtain⟨o',g'⟩:=e.alive _ _ q;exact sN g' g
theorem k7.trans{a I:Addr}{ao bB dP:Mu}{h₁ h₂ h₃:Heap}(x:k7 a I ao bB h₁ h₂)(y:k7 a I bB dP h₂ h₃):k7 a I ao dP h₁ h₃:=by
 have un:∀b o,¬bL ao b→h₁.get? b=some o→¬bL bB b:=λb o n g=>by
  refine aA x.pre λt bP ht=>?_
  refine ay bP ?_
  exact iL n g ht
 refine⟨?_,λb o z i n g=>y.keep b o z i (un b o n g) (x.keep b o z i n g),λb o g=>?_⟩
 ·refine aA x.pre λt bP ht=>?_
  subst bP
  refine aA y.pre λu bP hu=>?_
  refine ay bP ?_
  refine⟨t++u,List.append_assoc ..,λp hp=>?_⟩
  rcases List.mem_append.mp hp with q|q
  ·exact ht p q
  ·exact⟨x.dead (hu p q).1,x.dead (hu p q).2⟩
 ·refine bK (x.alive _ _ g) λo' g'=>?_
  exact y.alive _ _ g'
theorem k7.refl{a I:Addr}{μ:Mu}{h:Heap}:k7 a I μ μ h h:=(ef.refl).i I
structure AN(a I:Addr)(μ bA:Mu)(h h':Heap):Prop where
 pre:∃t,bA=μ++t∧∀p∈t,h.get? p.1=none∧h.get? p.2=none
 keep:∀b o,b≠a→b≠I→¬bL μ b→h.get? b=some o→h'.get? b=some o
 alive:∀b o,b≠I→h.get? b=some o→∃o',h'.get? b=some o'
theorem k7.j{a I:Addr}{μ bA:Mu}{h h':Heap}(e:k7 a I μ bA h h'):AN a I μ bA h h':=⟨e.pre,e.keep,λb o _ g=>e.alive b o g⟩
theorem k7.Ka{a I:Addr}{ao bB:Mu}{h₁ h₂ h₃:Heap}(x:k7 a I ao bB h₁ h₂)(k:∀b o,b≠I→h₂.get? b=some o→h₃.get? b=some o):AN a I ao bB h₁ h₃:=
 ⟨x.pre,λb o z i n g=>k b o i (x.keep b o z i n g),λb o i g=>by
  refine bK (x.alive b o g) λo' g'=>?_
  exact⟨o',k b o' i g'⟩⟩
theorem AN.close{a I:Addr}{μ bA:Mu}{h h₁ h':Heap}(e:AN a I μ bA h₁ h')(k:∀b o,h.get? b=some o→h₁.get? b=some o)(g:h.get? I=none)(ga:∃o,h.get? a=some o):ef a μ bA h h':=by
 have dead:∀b,h₁.get? b=none→h.get? b=none:=λb q=>by
  cases r:h.get? b with
  |none=>rfl
  |some o=>cases(k b o r).symm.trans q
 refine⟨?_,λb o z n q=>e.keep b o z (λk=>sN (k▸q) g) n (k b o q),λb o n q=>e.alive b o (λk=>sN (k▸q) g) (k b o q),λo q=>e.alive _ o (λk=>sN (k▸q) g) (k _ o q)⟩
 refine aA e.pre λt e1 e2=>?_
 exact⟨t,e1,λp hp=>⟨dead _ (e2 p hp).1,dead _ (e2 p hp).2⟩⟩
theorem k7.here{a I:Addr}{μ:Mu}{h h':Heap}(k:∀b o,b≠I→h.get? b=some o→h'.get? b=some o)(g:∃o,h'.get? I=some o):k7 a I μ μ h h':=
 ⟨uJ,λb o _ i _ q=>k b o i q,λb o q=>by
  by_cases i:b=I
  ·subst i;exact g
  ·exact⟨o,k b o i q⟩⟩
section
variable {X:Ctx} {n:Nat} {xs:List Nat} {mg mb:Str→Option Value}
theorem gG.here{I:Addr}{μ:Mu}{h h':Heap}(nv:∀o,h.get? I=some o→fc o=false)(k:∀b o,b≠I→h.get? b=some o→h'.get? b=some o):gG μ μ h h':=
 ⟨uJ,λb o n g v=>k b o (λz=>by subst z;cases(nv o g).symm.trans v) g⟩
theorem St.rO{μ:Mu}{σ:aa}{s s':Shared}(S:St X μ σ s){I:Addr}(no:¬bL μ I)(nv:∀o,s.heap.get? I=some o→fc o=false)(hl:X.h0.get? I=none)(k:∀b o,b≠I→s.heap.get? b=some o→s'.heap.get? b=some o)
  (hg:s'.gens=s.gens:=by rfl)(hos:s'.os=s.os:=by rfl):St X μ σ s':=by
 refine⟨S.len,S.above,S.main,S.sep,λi o p e g=>?_,λb o e=>k b o (λz=>sN (z▸e) hl) (S.base b o e),hg.trans S.gens,hos.trans S.os⟩
 have hm:=iy g
 obtain⟨⟨o1,l1⟩,⟨o2,l2⟩⟩:=S.alive hm
 exact OR.mono (gG.here nv k) (by rw[l1,k _ _ (λz=>no ⟨p,hm,.inl z.symm⟩) l1]) (by rw[l2,k _ _ (λz=>no ⟨p,hm,.inr z.symm⟩) l2]) (S.obj i o p e g)
theorem gP.rO{env:PySem.Env}{ls:List (Option Nat)}{ρ:Env}{μ:Mu}{h h':Heap}(F:gP X env ls ρ μ h){I:Addr}{oI:Obj}{vs:Array Value}(gI:h.get? I=some oI)(dI:oI.data=.fields vs)(nv:fc oI=false)
  (k:∀b o,b≠I→h.get? b=some o→h'.get? b=some o):gP X env ls ρ μ h':=by
 have E:gG μ μ h h':=gG.here (λo g=>by rw[gI] at g;cases g;exact nv) k
 refine dY λG hG=>?_
 obtain⟨m,⟨o,es,ep,ho,hd,hk,hm⟩,hv⟩:=F.ns
 refine hG ?_
 refine⟨F.own,F.low,F.kind,F.glob,F.blt,F.cells,F.nodup,F.lt,m,⟨o,es,ep,k _ _ (λz=>by rw[z,gI] at ho;cases ho;cases dI.symm.trans hd) ho,hd,hk,hm⟩,λi n v a b=>?_⟩
 rcases hv i n v a b with⟨q,x,y,z⟩|⟨q,c,x,hc,no,⟨oc,g,gd⟩,y⟩
 ·exact .inl ⟨q,x,y,VR.bI E _ _ z⟩
 ·have hc2:c≠I:=λz=>by rw[z,gI] at g;cases g;cases dI.symm.trans gd
  exact .inr ⟨q,c,x,hc,no,⟨oc,k _ _ hc2 g,gd⟩,VR.bI E _ _ y⟩
noncomputable def nC:List String:=["tuple_iterator","list_iterator","range_iterator","bytearray_iterator","dict_keyiterator"]
structure Src(X:Ctx)(A:Around)(ok:aa→Bool)(a I:Addr)(l:List V)(T:Nat→Mu→aa→Heap→Prop):Prop where
 low:X.h0.get? I=none
 fld:∀i μ σ h,T i μ σ h→∃o nm vs,h.get? I=some o∧o.cls=.type nm∧nm∈nC∧o.data=.fields vs
 frame:∀i μ bA σ σ'(s s':Shared),T i μ σ s.heap→ef a μ bA s.heap s'.heap→(∀o,s.heap.get? a=some o→fc o=false)→St X μ σ s→St X bA σ' s'→ok σ=true→ok σ'=true→T i bA σ' s'.heap
 item:∀i u μ σ(s:Shared)(Q:Option Value→Shared→Prop)(E:Value→Shared→Prop),l[i]? =some u→T i μ σ s.heap→St X μ σ s→ok σ=true→
  (∀v h' tk,VR X μ s.heap u v→T (i+1) μ σ h'→(∀b o,b≠I→s.heap.get? b=some o→h'.get? b=some o)→Q (some v) {s with heap:=h',toks:=tk})→wpAny (model X.prog X.w) A (pyNext (.ref I)) Q E s
 done:∀μ σ(s:Shared)(Q:Option Value→Shared→Prop)(E:Value→Shared→Prop),T l.length μ σ s.heap→St X μ σ s→ok σ=true→
  (∀h' tk,(∀b o,b≠I→s.heap.get? b=some o→h'.get? b=some o)→Q none {s with heap:=h',toks:=tk})→wpAny (model X.prog X.w) A (pyNext (.ref I)) Q E s
noncomputable def yZ(X:Ctx)(A:Around)(env:PySem.Env)(ls:List (Option Nat))(cR:Expr)(fZ:Env→V→Option Env):Prop:=
 ∀ρ oN u v μ σ(s:Shared),gP X env ls ρ μ s.heap→St X μ σ s→VR X μ s.heap u v→fZ ρ u=some oN→∀(Q:Unit→Shared→Prop)(E:Value→Shared→Prop),
  (∀s',ef env.locals μ μ s.heap s'.heap→St X μ σ s'→gP X env ls oN μ s'.heap→Q () s')→wpAny (model X.prog X.w) A (assign cR env v) Q E s
theorem zc{A:Around}{cR:Expr}{I:Addr}{v:Value}{s:Shared}{o:Obj}{nm:String}{vs:Array Value}(g:s.heap.get? I=some o)(hc:o.cls=.type nm)(hn:nm∈nC)(hd:o.data=.fields vs)
  {Q:Unit→Shared→Prop}{E:Value→Shared→Prop}(h:Q () s):wpAny (model X.prog X.w) A (letOwnedTupleGo cR (.ref I) v) Q E s:=by
 have key:∀a:Addr,(["enumerate","zip","dict_itemiterator","dict_reverseitemiterator","odict_iterator","itertools.zip_longest","itertools.pairwise"].contains nm&&vs[0]? ==some (rawInt a))=false:=by
  intro a
  have:["enumerate","zip","dict_itemiterator","dict_reverseitemiterator","odict_iterator","itertools.zip_longest","itertools.pairwise"].contains nm=false:=by
   simp only[nC,List.mem_cons,iO,or_false] at hn
   rcases hn with rfl|rfl|rfl|rfl|rfl<;>decide
  rw[this];rfl
 have go:∀a:Addr,wpAny (model X.prog X.w) A (load I>>= λo=>match o.cls,o.data with
   | .type n,.fields vs=>
    (if(["enumerate","zip","dict_itemiterator","dict_reverseitemiterator","odict_iterator","itertools.zip_longest","itertools.pairwise"].contains n&&vs[0]? ==some (rawInt a))=true then do
     rule "for.unpacks-the-owned-tuple"
     updateField I 0 .none
    else pure ())
   |_,_=>pure ()) Q E s:=by
  intro a
  refine au (wpAny_load g ?_)
  refine hc▸hd▸ ?_
  dsimp only
  refine(key a)▸ ?_
  exact aT h
 cases cR<;>first|exact aT h|(cases v<;>first|exact aT h|exact go _)
theorem qD{o:Obj}{nm:String}{vs:Array Value}(hc:o.cls=.type nm)(hn:nm∈nC)(hd:o.data=.fields vs):fc o=false:=by
 unfold fc
 refine hd▸hc▸ ?_
 simp only[nC,List.mem_cons,iO,or_false] at hn
 rcases hn with rfl|rfl|rfl|rfl|rfl<;>(dsimp only;decide)
theorem zd{body:Env→aa→Option (Fl × Env × aa)}{fZ:Env→V→Option Env}{ok:aa→Bool}:∀{l:List V}{ρ:Env}{σ:aa}{r:Fl × Env × aa},g6 body fZ ok l ρ σ=some r→ok σ=true
 | [],ρ,σ,r,h=>by
  simp only[g6] at h
  refine fJ h λ_ h=>?_
  assumption
 |v::q,ρ,σ,r,h=>by
  dsimp only[g6] at h
  refine fJ h λ_ h=>?_
  assumption
inductive FP(X:Ctx)(env:PySem.Env)(ls:List (Option Nat))(bf:Env→aa→Option (Fl × Env × aa))(fZ:Env→V→Option Env)(ok:aa→Bool)(I:Addr)(l:List V)(T:Nat→Mu→aa→Heap→Prop)(r:Fl × Env × aa)(nE:Mu)(s0:Shared)(k:Nat)(s:Shared):Prop
 |mk (i:Nat) (qh:Env) (rA:aa) (uG:Mu) (hk:k=l.length+1-i) (hi:i≤l.length) (he:g6 bf fZ ok (l.drop i) qh rA=some r) (F:gP X env ls qh uG s.heap) (S:St X uG rA s) (hT:T i uG rA s.heap) (EI:k7 env.locals I nE uG s0.heap s.heap):FP X env ls bf fZ ok I l T r nE s0 k s
inductive Oi(X:Ctx)(env:PySem.Env)(ls:List (Option Nat))(tf:Env→aa→Option (Bool × aa))(bf:Env→aa→Option (Fl × Env × aa))(r:Fl × Env × aa)(nE:Mu)(s0:Shared)(k:Nat)(s:Shared):Prop
 |mk (qh:Env) (rA:aa) (uG:Mu) (he:lQ tf bf k qh rA=some r) (F:gP X env ls qh uG s.heap) (S:St X uG rA s) (EL:ef env.locals nE uG s0.heap s.heap):Oi X env ls tf bf r nE s0 k s
theorem Il{bf:Env→aa→Option (Fl × Env × aa)}{bx:Env→V→Option Env}{ok:aa→Bool}{l:List V}{ρ:Env}{σ:aa}{r:Fl × Env × aa}{G:Prop}(h:g6 bf bx ok l ρ σ=some r)
  (k0:l=[]→(.next,ρ,σ)=r→G)
  (k1:∀v q oN f oO σ2,l=v::q→bx ρ v=some oN→bf oN σ=some (f,oO,σ2)→(f=.brk→(.next,oO,σ2)=r)→(∀u,f=.ret u→(.ret u,oO,σ2)=r)→(f=.next∨f=.cont→g6 bf bx ok q oO σ2=some r)→G):G:=by
 cases l with
 |nil=>exact fJ h λ_ h=>k0 rfl (aX h)
 |cons v q=>
  refine fJ h λ_ h=>?_
  refine aA (bind_some h) λoN h1 h=>?_
  refine aA (bind_some h) λx h2 h=>?_
  obtain⟨f,oO,σ2⟩:=x
  cases f with
  |next=>exact k1 v q oN .next oO σ2 rfl h1 h2 nofun nofun λ_=>h
  |cont=>exact k1 v q oN .cont oO σ2 rfl h1 h2 nofun nofun λ_=>h
  |brk=>exact k1 v q oN .brk oO σ2 rfl h1 h2 (λ_=>aX h) nofun nofun
  |ret u=>exact k1 v q oN (.ret u) oO σ2 rfl h1 h2 nofun (λ_ e=>Fl.ret.inj e▸aX h) nofun
theorem ze{A:Around}{env:PySem.Env}{ls:List (Option Nat)}{ok:aa→Bool}{I:Addr}{l:List V}{T:Nat→Mu→aa→Heap→Prop}(Sr:Src X A ok env.locals I l T){cR:Expr}{bf:Env→aa→Option (Fl × Env × aa)}{fZ:Env→V→Option Env}
  (Tg:yZ X A env ls cR fZ){WB:(Flow→Shared→Prop)→Shared→Prop}(hb:∀ρ σ fl ρ' τ μ(s:Shared),gP X env ls ρ μ s.heap→St X μ σ s→bf ρ σ=some (fl,ρ',τ)→∀Q,kY X env ls μ s fl ρ' τ Q→WB Q s)
  {gm:aa}{nE:Mu}{s0:Shared}(LM:T 0 nE gm s0.heap)(noI:¬bL nE I)
  {fl:Fl}{ρ':Env}{τ:aa}{Q:Flow→Shared→Prop}
  (hQ:∀bA f s',AN env.locals I nE bA s0.heap s'.heap→St X bA τ s'→gP X env ls ρ' bA s'.heap→x9 X bA s'.heap fl f→Q f s'){k:Nat}{s:Shared}
  (h:FP X env ls bf fZ ok I l T (fl,ρ',τ) nE s0 k s){Tp:Option Value→Shared→Prop}{B:Flow→Shared→Prop}{E:Value→Shared→Prop}(hF:∀s,Q .next s→Tp none s)
  (hV:∀v s,wpAny (model X.prog X.w) A (letOwnedTupleGo cR (.ref I) v) (λ_ s₁=>wpAny (model X.prog X.w) A (assign cR env v) (λ_ s₂=>WB B s₂) E s₁) E s→Tp (some v) s)
  (hN:∀m s,m<k→FP X env ls bf fZ ok I l T (fl,ρ',τ) nE s0 m s→B .next s∧B .cont s)(hB:∀s,Q .next s→B .brk s)(hU:∀v s,Q (.ret v) s→B (.ret v) s):
  wpAny (model X.prog X.w) A (pyNext (.ref I)) Tp E s:=by
 obtain⟨i,qh,rA,uG,hk,hi,he,F,S,hT,EI⟩:=h
 have hok:=zd he
 refine jN (Sr.fld _ _ _ _ hT) λoI nm vs gI cI mI dI=>?_
 have LN:fc oI=false:=qD cI mI dI
 have nv:∀o,s.heap.get? I=some o→fc o=false:=λo g=>by rw[gI] at g;cases g;exact LN
 have Oj:¬bL uG I:=by
  refine HL (Sr.fld _ _ _ _ LM) λo0 _ _ g0 _=>?_
  refine aA EI.pre λt bP ht=>?_
  refine ay bP ?_
  exact iL noI g0 ht
 refine Il he (λhd e=>?_) λw q oN f1 oO σ2 hd hb1 hb2 b1 b2 b3=>?_
 ·have RJ:i=l.length:=dH hi (List.drop_eq_nil_iff.mp hd)
  clear he hd hk hN hB hU hV
  refine Sr.done uG _ s _ _ (RJ▸hT) S hok λh' tk hk=>hF _ ?_
  have S1:St X uG _ {s with heap:=h',toks:=tk}:=S.rO (s':={s with heap:=h',toks:=tk}) Oj nv Sr.low hk
  cases e
  exact hQ _ _ {s with heap:=h',toks:=tk} (EI.Ka hk) S1 (F.rO gI dI LN hk) rfl
 ·have lU:i<l.length:=Nat.lt_of_not_le λz=>absurd hd (List.drop_eq_nil_iff.mpr z▸nofun)
  have hd2:=hd.symm.trans (List.drop_eq_getElem_cons lU)
  have hw:=(List.cons.inj hd2).1
  rw[(List.cons.inj hd2).2] at b3
  subst hw
  clear he hd hd2 hF
  refine Sr.item i l[i] uG rA s _ _ (iw lU) hT S hok λv h' tk hv hT1 hk'=>hV _ _ ?_
  clear hV
  have UK:gG uG uG s.heap h':=gG.here nv hk'
  have S1:St X uG rA {s with heap:=h',toks:=tk}:=S.rO (s':={s with heap:=h',toks:=tk}) Oj nv Sr.low hk'
  have F1:gP X env ls qh uG h':=F.rO gI dI LN hk'
  refine jN (Sr.fld _ _ _ _ hT1) λUL RK vs' LO Xh Xi Xj=>?_
  refine zc (s:={s with heap:=h',toks:=tk}) LO Xh Xi Xj ?_
  refine Tg qh oN l[i] v uG rA {s with heap:=h',toks:=tk} F1 S1 (VR.bI UK _ _ hv) hb1 _ _ λs2 E2 S2 F2=>?_
  have hT2:=Sr.frame _ _ _ _ _ _ _ hT1 E2 F1.ie S1 S2 hok hok
  refine hb oN rA _ _ _ uG s2 F2 S2 hb2 _ λOl f s3 E3 S3 F3 R3=>?_
  have RL:k7 env.locals I nE Ol s0.heap s3.heap:=(EI.trans (k7.here hk' ⟨_,LO⟩)).trans ((E2.trans E3).i I)
  have hm:l.length+1-(i+1)<k:=hk▸Nat.sub_lt_sub_left (Nat.lt_succ_of_lt lU) (Nat.lt_succ_self i)
  have again:g6 bf fZ ok (l.drop (i+1)) oO σ2=some (fl,ρ',τ)→B .next s3∧B .cont s3:=λhe=>hN _ _ hm ⟨i+1,oO,σ2,Ol,rfl,lU,he,F3,S3,Sr.frame _ _ _ _ _ _ _ hT2 E3 F2.ie S2 S3 hok (zd he),RL⟩
  clear hb2 hN hT2 hb1 F1 S1 hv UK hk'
  cases f1 with
  |next=>cases R3;exact(again (b3 (.inl rfl))).1
  |cont=>cases R3;exact(again (b3 (.inr rfl))).2
  |brk=>cases R3;have b:=b1 rfl;clear again b1 b2 b3;cases b;exact hB _ (hQ _ _ _ RL.j S3 F3 rfl)
  |ret u=>
   have b:=b2 u rfl
   have R4:=R3
   refine aA R3 λx bP hx=>?_
   subst bP
   clear again b1 b2 b3
   cases b
   exact hU _ _ (hQ _ _ _ RL.j S3 F3 R4)
theorem vU{A:Around}{env:PySem.Env}{ls:List (Option Nat)}(hR:Room A n){ok:aa→Bool}{I:Addr}{l:List V}{T:Nat→Mu→aa→Heap→Prop}(Sr:Src X A ok env.locals I l T){cR:Expr}{body:List Stmt}{ms:List MS}{fZ:Env→V→Option Env}
  (Tg:yZ X A env ls cR fZ)(hb:SB X n xs ms)(RM:jM ⟨X.NM,xs⟩ env.scope ls ms body=true){AO:Env}{gm:aa}{nE:Mu}{s0:Shared}(F0:gP X env ls AO nE s0.heap)(S0:St X nE gm s0)(LM:T 0 nE gm s0.heap)(noI:¬bL nE I)
  {fl:Fl}{ρ':Env}{τ:aa}(Nc:g6 (λρ σ=>aP (af P0 n) ρ ms σ) fZ ok l AO gm=some (fl,ρ',τ))(Q:Flow→Shared→Prop)(E:Value→Shared→Prop)
  (hQ:∀bA f s',AN env.locals I nE bA s0.heap s'.heap→St X bA τ s'→gP X env ls ρ' bA s'.heap→x9 X bA s'.heap fl f→Q f s'):
  codeAny (model X.prog X.w) A (.forLoop cR (.ref I) body [] env) (λr s'=>match r with| .ok f=>Q f s'| .error e=>cameBackBy (model X.prog X.w) A env E e s') s0:=by
 exact codeAny_forLoop_any (FP X env ls _ fZ ok I l T (fl,ρ',τ) nE s0)
  (λk s hi=>ze (WB:=λQ s=>wpAny (model X.prog X.w) A (execs body env) Q _ s) Sr Tg (λρ σ fl ρ' τ μ s F S h Q hQ=>hb A env ls ρ σ fl ρ' τ μ s _ hR RM F S h Q _ hQ) LM noI hQ hi (λ_ h=>wpAny_execs_nil h) (λ_ _ h=>h) (λm _ hm h=>⟨⟨m,hm,h⟩,⟨m,hm,h⟩⟩) (λ_ h=>h) λ_ _ h=>h)
  (l.length+1) ⟨0,AO,gm,nE,rfl,Nat.zero_le _,Nc,F0,S0,LM,.refl⟩
theorem Om{R:Result→Shared→Prop}{test:Expr}{body:List Stmt}{env:PySem.Env}{prog w A}(I:Nat→Shared→Prop)
  (turn:∀n s,I n s→∀(T:Bool→Shared→Prop)(B:Flow→Shared→Prop)(E:Value→Shared→Prop),(∀s,R (.ok .next) s→T false s)→(∀s,wpAny (model prog w) A (execs body env) B E s→T true s)→(∀m s,m<n→I m s→B .next s∧B .cont s)→(∀s,R (.ok .next) s→B .brk s)→(∀v s,R (.ok (.ret v)) s→B (.ret v) s)→
   wpAny (model prog w) A (isTrue test env (eval test env)) T E s)
  (n:Nat)(s:Shared)(h:I n s):codeAny (model prog w) A (.whileLoop test body [] env) R s:=
 codeAny_whileLoop I (λn s hi=>turn n s hi _ _ _ (λ_ h=>wpAny_execs_nil h) (λ_ h=>h) (λm _ hm h=>⟨⟨m,hm,h⟩,⟨m,hm,h⟩⟩) (λ_ h=>h) λ_ _ h=>h) n h
theorem Dj{tf:Env→aa→Option (Bool × aa)}{bf:Env→aa→Option (Fl × Env × aa)}{k:Nat}{ρ:Env}{σ:aa}{r:Fl × Env × aa}{G:Prop}(h:lQ tf bf k ρ σ=some r)
  (k0:∀σ1,tf ρ σ=some (false,σ1)→(.next,ρ,σ1)=r→G)
  (k1:∀m σ1 f oO σ2,m<k→tf ρ σ=some (true,σ1)→bf ρ σ1=some (f,oO,σ2)→(f=.brk→(.next,oO,σ2)=r)→(∀u,f=.ret u→(.ret u,oO,σ2)=r)→(f=.next∨f=.cont→lQ tf bf m oO σ2=some r)→G):G:=by
 cases k with
 |zero=>cases h
 |succ m=>
  refine bw h λc σ1 h1 h=>?_
  cases c with
  |false=>exact k0 _ h1 (aX h)
  |true=>
   refine aA (bind_some h) λx h2 h=>?_
   obtain⟨f,oO,σ2⟩:=x
   cases f with
   |next=>exact k1 m σ1 .next oO σ2 (Nat.lt_succ_self _) h1 h2 nofun nofun λ_=>h
   |cont=>exact k1 m σ1 .cont oO σ2 (Nat.lt_succ_self _) h1 h2 nofun nofun λ_=>h
   |brk=>exact k1 m σ1 .brk oO σ2 (Nat.lt_succ_self _) h1 h2 (λ_=>aX h) nofun nofun
   |ret u=>exact k1 m σ1 (.ret u) oO σ2 (Nat.lt_succ_self _) h1 h2 nofun (λ_ e=>Fl.ret.inj e▸aX h) nofun
theorem zf{A:Around}{env:PySem.Env}{ls:List (Option Nat)}(hR:Room A n){t:ME}{ms:List MS}{test:Expr}{body:List Stmt}(ht:ST X n xs t)(hb:SB X n xs ms)(hct:aJ ⟨X.NM,xs⟩ env.scope ls t test=true)(RM:jM ⟨X.NM,xs⟩ env.scope ls ms body=true)
  {AO:Env}{gm:aa}{nE:Mu}{s0:Shared}(F0:gP X env ls AO nE s0.heap)(S0:St X nE gm s0)(m0:Nat)
  {fl:Fl}{ρ':Env}{τ:aa}(Nc:lQ (λρ σ=>(aH (af P0 n) ρ t σ).bind λ(v,σ)=>(dB v).map λc=>(c,σ)) (λρ σ=>aP (af P0 n) ρ ms σ) m0 AO gm=some (fl,ρ',τ))(Q:Flow→Shared→Prop)(E:Value→Shared→Prop)
  (hQ:kY X env ls nE s0 fl ρ' τ Q):
  codeAny (model X.prog X.w) A (.whileLoop test body [] env) (λr s'=>match r with| .ok f=>Q f s'| .error e=>cameBackBy (model X.prog X.w) A env E e s') s0:=by
 refine Om (Oi X env ls _ _ (fl,ρ',τ) nE s0) ?_ m0 s0 ⟨AO,gm,nE,Nc,F0,S0,.refl⟩
 rintro k s ⟨qh,rA,uG,he,F,S,EL⟩ T B EE hF hT hN hB hV
 clear Nc
 refine Dj he (λσ1 h1 e=>?_) λm σ1 f1 oO σ2 hm h1 hb2 b1 b2 b3=>?_
 all_goals
  clear he
  refine aA (bind_some h1) λw h2 h1=>?_
  refine aA (map_some h1) λc' h3 e3=>?_
  clear h1
  have e4:=aj Prod.snd e3
  dsimp only at e4
 ·refine ht A env ls qh rA _ _ _ uG s _ hR hct F S h2 (h3.trans (aj some (aj Prod.fst e3))) _ _ λUM s1 E1 S1=>hF _ ?_
  cases e
  exact hQ _ _ _ (EL.trans E1.l) (e4▸S1) (F.mono E1) rfl
 ·refine ht A env ls qh rA _ _ _ uG s _ hR hct F S h2 (h3.trans (aj some (aj Prod.fst e3))) _ _ λUM s1 E1 S1=>hT _ ?_
  refine hb A env ls qh _ _ _ _ UM s1 _ hR RM (F.mono E1) (e4▸S1) hb2 _ _ λOl f s3 E3 S3 F3 R3=>?_
  have Qz:=(EL.trans E1.l).trans E3
  clear hb2 h2 h3 e3 hF hT
  cases f1 with
  |next=>cases R3;exact(hN _ _ hm ⟨oO,σ2,Ol,b3 (.inl rfl),F3,S3,Qz⟩).1
  |cont=>cases R3;exact(hN _ _ hm ⟨oO,σ2,Ol,b3 (.inr rfl),F3,S3,Qz⟩).2
  |brk=>cases R3;have b:=b1 rfl;cases b;exact hB _ (hQ _ _ _ Qz S3 F3 rfl)
  |ret u=>
   have b:=b2 u rfl
   have R4:=R3
   refine aA R3 λx bP hx=>?_
   subst bP
   exact hV _ _ ((hQ.oq b) _ _ _ Qz S3 F3 R4)
theorem FQ{t:ME}{b:List MS}(ht:ST X n xs t)(hb:SB X n xs b):SS X n xs (.while t b):=by
 intro A env ls ρ σ fl ρ' τ μ s st hR hc F S he Q E hQ
 refine FG hc λc x p hc1 hc2=>?_
 refine wpAny_While ?_
 exact zf hR ht hb hc1 hc2 F S 4 he Q E hQ
theorem zg(B:bE X mg mb){A:Around}{env:PySem.Env}{ls:List (Option Nat)}{x:Nat}{t:Str}{p:Pos}(hx:eZ ⟨X.NM,xs⟩ env.scope ls x t=true):yZ X A env ls (.Name t p) (λρ v=>some (ρ.set x (some v))):=by
 intro ρ oN u v μ σ s F S hv he Q E h
 obtain rfl:=aX he
 refine wpAny_assign_Name ?_
 exact kZ B F S hv hx λs' E' S' F' _=>h s' E' S' F'
theorem Dk(B:bE X mg mb){A:Around}(hR:Room A n){env:PySem.Env}{ls:List (Option Nat)}{ys:List Nat}{elts:List Expr}{k:Nat}{p:Pos}(hx:jA ⟨X.NM,xs⟩ env.scope ls ys elts=true):
  yZ X A env ls (.Tuple elts k p) (λρ v=>match v with| .tup l=>cY ρ ys l|_=>none):=by
 intro ρ oN u v μ σ s F S hv he Q E h
 dsimp only at he
 refine Et he λl bP he=>?_
 subst bP
 refine Ep (kh (A:=A) hx) λi1 i2 i3 i4 i5 i6 i7=>?_
 have aV:∀(ys:List Nat)(l:List V)(ρ ρ':Env),cY ρ ys l=some ρ'→ys.length=l.length:=by
  intro ys
  induction ys with
  |nil=>intro l ρ ρ' e;cases l with
   |nil=>rfl
   |cons a r=>cases e
  |cons y r ih=>intro l ρ ρ' e;cases l with
   |nil=>cases e
   |cons a q=>simp only[List.length_cons,ih q _ _ e]
 have hl:=aV _ _ _ _ he
 simp only[VR] at hv
 refine VR.uK hv λa az m no g hv=>?_
 have mh:List.length _=_:=hv.length
 simp only[gV] at mh
 refine wpAny_assign_Tuple hR.1 (⟨_,g,rfl,_,rfl⟩) (by exact dH ((cG (Eq.trans (Eq.trans i2 hl) mh))) ((cG (Eq.trans (Eq.trans (Eq.symm mh) (Eq.symm hl)) (Eq.symm i2))))) i3 λh' hx=>?_
 have kk:∀b o,s.heap.get? b=some o→h'.get? b=some o:=λb o g=>hx b o (Nat.ne_of_lt (dh g)) g
 have E₂:cU μ μ s.heap h':=cU.more kk
 refine nA B (F.mono E₂) (S.more (s':={s with heap:=h'}) kk) i1 (bN.mono E₂ hv) he λs₃ E₃ cu FO=>?_
 exact h _ (E₂.l.trans E₃) cu FO
end
namespace BA
theorem slot_next:Slot "bytearray_iterator" "__next__" "bytearray_iterator.__next__":=
 .of (owner:="bytearray_iterator") (n:="__next__") (by rw[typeLookup_type,builtinLookup_eq_fast];kernel_rfl) (by decide+kernel) (by decide+kernel) (by decide+kernel)
  (by first|exact .inl (by decide+kernel)|exact .inr (by decide+kernel)) (by rw[isSubtype_type];kernel_rfl)
theorem entry_next:entryFor table "bytearray_iterator.__next__"=some Builtin.«bytearray_iterator.__next__»:=entryFor_of_tree (by kernel_rfl)
theorem args_next(a:Value):argsOk "bytearray_iterator.__next__" ⟨[a],[]⟩:=by unfold argsOk;kernel_rfl
end BA
noncomputable def k8(h:Heap)(I a:Addr)(i:Nat):Prop:=∃o,h.get? I=some o∧o.cls=.type "bytearray_iterator"∧o.data=.fields #[.ref a,.int i 0]
section
variable {prog:Program} {w:World} {A:Around} {E:Value→Shared→Prop} {s:Shared}
theorem Dl{a:Addr}{b:Array UInt8}{Q:Value→Shared→Prop}(h:s.heap.get? a=some (cL b))
  (hQ:Q (.ref s.heap.objs.size) {s with heap:=s.heap.push {cls:= .type "bytearray_iterator",data:= .fields #[.ref a,.int 0 0]}}):wpAny (model prog w) A (pyIter (.ref a)) Q E s:=by
 have hT:s.TypeIs (.ref a) "bytearray":=⟨_,h,rfl⟩
 refine wpAny_pyIter_slot hT BA.vz (wpAny_call_entry BA.vz hT BA.Ar ?_ (BA.CU _))
 refine(?_:wpAny _ _ (do ret (←newFields "bytearray_iterator" [.ref a,rawInt 0])) _ _ s)
 exact au (wpAny_newObj_type (aT ⟨_,rfl,"bytearray_iterator",_,⟨_,dz _ rfl,rfl⟩,BA.slot_next.lookup,hQ⟩))
theorem k8.typeIs{it a:Addr}{i:Nat}(x:k8 s.heap it a i):s.TypeIs (.ref it) "bytearray_iterator":=let⟨o,ho,hc,_⟩:=x;⟨o,ho,hc⟩
theorem xq{it a:Addr}{i:Nat}{b:Array UInt8}{c:UInt8}{Q:Option Value→Shared→Prop}(g8:k8 s.heap it a i)(hl:s.heap.get? a=some (cL b))(hx:b[i]? =some c)
  (hQ:∀h' tk t,k8 h' it a (i+1)→Heap.SameBut it s.heap h'→Q (some (.int (c.toNat:Nat) t)) {s with heap:=h',toks:=tk}):wpAny (model prog w) A (pyNext (.ref it)) Q E s:=by
 refine gC (id g8) λo ho hc hd=>?_
 refine au (wpAny_attempt (wpAny_callSpecial?_slot (name:=Str.ofString "__next__") g8.typeIs BA.slot_next
  (wpAny_call_entry BA.slot_next g8.typeIs BA.entry_next ?_ (BA.args_next _))))
 refine(?_:wpAny _ _ (field (.ref it) 0>>= _) _ _ s)
 refine au (wpAny_field ho hd (x:= .ref a) rfl ?_)
 refine au (wpAny_load hl ?_)
 refine au (wpAny_field ho hd (x:= .int i 0) rfl ?_)
 simp only[Int.toNat_natCast,hx]
 refine au (wpAny_setField ho hd (bS _) ?_)
 refine wpAny_ret_mkInt (aT (hQ _ _ _ ?_ (Heap.SameBut.update ..)))
 exact⟨_,Heap.get?_update_self _ ho (Obj.isFreed_of_fields (Obj.data_mapFields hd _)),(Obj.cls_mapFields ..).trans hc,by
  rw[Obj.data_mapFields hd];simp[rawInt]⟩
theorem zh{it a:Addr}{i:Nat}{b:Array UInt8}{Q:Option Value→Shared→Prop}(hh:A.handled=none)(g8:k8 s.heap it a i)(hl:s.heap.get? a=some (cL b))(hx:b[i]? =none)
  (hQ:∀h',Heap.ExtBut it s.heap h'→Q none {s with heap:=h'}):wpAny (model prog w) A (pyNext (.ref it)) Q E s:=by
 refine gC (id g8) λo ho hc hd=>?_
 refine au (wpAny_attempt (wpAny_callSpecial?_slot (name:=Str.ofString "__next__") g8.typeIs BA.slot_next
  (wpAny_call_entry BA.slot_next g8.typeIs BA.entry_next ?_ (BA.args_next _))))
 refine(?_:wpAny _ _ (field (.ref it) 0>>= _) _ _ s)
 refine au (wpAny_field ho hd (x:= .ref a) rfl ?_)
 refine au (wpAny_load hl ?_)
 refine(?_:wpAny _ _ (field (.ref it) 1>>= _) _ _ s)
 refine au (wpAny_field ho hd (x:= .int i 0) rfl ?_)
 simp only[Int.toNat_natCast,hx]
 refine au (wpAny_rule (au (wpAny_setField ho hd (Nat.le_succ _) ?_)))
 refine au (wpAny_letGo ?_)
 refine au ?_
 refine au (wpAny_newObj_type ?_ (by size_fits))
 refine au (m:=firstArgMember _ _) (wpAny_of_eq (a:=Value.none) (by first|rfl|(simp only[firstArgMember];rfl)) ?_)
 refine wpAny_newObj_type ?_ (by size_fits)
 refine au (wpAny_handled ?_)
 refine ay (show A.in1.handled=none from hh) (?_)
 refine au (aT (wpAny_throw ?_))
 refine au (wpAny_isInstance (T:="StopIteration") (b:=true) ⟨_,dz _ rfl,rfl⟩ isSubtype_stop ?_)
 exact aT (hQ _ (((Heap.SameBut.update ..).extBut.push _).push _))
end
section
variable {X:Ctx} {n:Nat} {xs:List Nat} {mg mb:Str→Option Value}
theorem Src.of{A:Around}{a I:Addr}{fp:List Addr}{l:List V}{P:Nat→Value→Prop}{W:Nat→Heap→Prop}{ok:aa→Bool}(R:Mu→Heap→Prop)(hI:I∈fp)(low:X.h0.get? I=none)(hfp:∀b∈fp,b≠a)
  (fld:∀i h,W i h→∃o nm vs,h.get? I=some o∧o.cls=.type nm∧nm∈nC∧o.data=.fields vs)
  (frame:∀i h h',W i h→(∀b∈fp,∀o,h.get? b=some o→h'.get? b=some o)→W i h')
  (item:∀i(s:Shared)(Q:Option Value→Shared→Prop)(E:Value→Shared→Prop),i<l.length→W i s.heap→
   (∀v h' tk,P i v→W (i+1) h'→(∀b o,b∉[I]→s.heap.get? b=some o→h'.get? b=some o)→Q (some v) {s with heap:=h',toks:=tk})→wpAny (model X.prog X.w) A (pyNext (.ref I)) Q E s)
  (done:∀(s:Shared)(Q:Option Value→Shared→Prop)(E:Value→Shared→Prop),W l.length s.heap→
   (∀h' tk,(∀b o,b∉[I]→s.heap.get? b=some o→h'.get? b=some o)→Q none {s with heap:=h',toks:=tk})→wpAny (model X.prog X.w) A (pyNext (.ref I)) Q E s)
  (mono:∀μ bA h h',gG μ bA h h'→R μ h→R bA h')(hP:∀i u v μ h,l[i]? =some u→R μ h→P i v→VR X μ h u v):
  Src X A ok a I l (λi μ _ h=>W i h∧(∀b∈fp,¬bL μ b∧∃o,h.get? b=some o)∧R μ h) where
 low:=low
 fld:=λi μ σ h t=>fld i h t.1
 frame:=λi μ bA σ σ' s s' t e nv S S' _ _=>by
  refine⟨frame i _ _ t.1 λb hb o g=>e.keep b o (hfp b hb) (t.2.1 b hb).1 g,λb hb=>?_,mono _ _ _ _ (e.v nv) t.2.2⟩
  refine dY λG hG=>?_
  obtain⟨no,o,g⟩:=t.2.1 b hb
  refine hG ?_
  exact⟨e.eV no g,e.alive g⟩
 item:=λi u μ σ s Q E hu t S _ h=>by
  refine item i s Q E ((eY hu).1) t.1 λv h' tk hp hw hk=>?_
  have hk':∀b o,b≠I→s.heap.get? b=some o→h'.get? b=some o:=λb o z g=>hk b o (by simpa using z) g
  refine jN (fld _ _ t.1) λo nm vs gI cI mI dI=>?_
  refine HL (fld _ _ hw) λo' RK vs' LO _=>?_
  refine h v h' tk (hP i u v μ _ hu t.2.2 hp) ⟨hw,λb hb=>?_,mono _ _ _ _ (gG.here (λo g=>by rw[gI] at g;cases g;exact qD cI mI dI) hk') t.2.2⟩ hk'
  refine dY λG hG=>?_
  obtain⟨no,o,g⟩:=t.2.1 b hb
  refine hG ?_
  refine⟨no,?_⟩
  by_cases z:b=I
  ·subst z;exact⟨_,LO⟩
  ·exact⟨o,hk' b o z g⟩
 done:=λμ σ s Q E t S _ h=>done s Q E t.1 λh' tk hk=>h h' tk λb o z g=>hk b o (by simpa using z) g
theorem Src.cell{A:Around}(hh:A.handled=none){a I:Addr}{x:Nat}{l:List V}(low:X.h0.get? I=none)(ha:I≠a):
  Src X A (λσ=>match σ[x]? with|some (.list b)=>decide (l=b)|_=>false) a I l (λi μ _ h=>∃p,μ[x]? =some p∧h.IsListIter I p.1 i∧¬bL μ I) where
 low:=low
 fld:=λi μ σ h ⟨p,_,⟨o,g,c,d⟩,_⟩=>⟨o,"list_iterator",_,g,c,by decide,d⟩
 frame:=λi μ bA σ σ' s s' ⟨p,hp,⟨o,g,c,d⟩,no⟩ e nv S S' _ _=>⟨p,by
  obtain⟨t,rfl,_⟩:=e.pre
  rw[List.getElem?_append_left (eY hp).1];exact hp,⟨o,e.keep I o ha no g,c,d⟩,e.eV no g⟩
 item:=λi u μ σ s Q E hu ⟨p,hp,g8,no⟩ S hok h=>by
  split at hok
  ·rename_i b hb
   refine dY λG hG=>?_
   obtain rfl:=dw hok
   obtain⟨e2,az,k,g2,hv⟩:OR X μ s.heap p (.list l):=S.obj x _ p hb hp
   refine aA (hv.at hu) λy hy ya=>?_
   refine hG ?_
   refine wpAny_pyNext_list_item g8 ⟨_,g2,rfl,_,rfl⟩ (x:=y) (by rw[←jP];exact hy) λh' LP jF=>?_
   exact h y h' s.toks ya ⟨p,hp,LP,no⟩ λb o z g=>(jF.2 b z).trans g
  ·exact nomatch hok
 done:=λμ σ s Q E ⟨p,hp,g8,no⟩ S hok h=>by
  split at hok
  ·rename_i b hb
   obtain rfl:=dw hok
   refine dY λG hG=>?_
   obtain⟨e2,az,k,g2,hv⟩:OR X μ s.heap p (.list l):=S.obj x _ p hb hp
   refine hG ?_
   refine wpAny_pyNext_list_end hh g8 ⟨_,g2,rfl,_,rfl⟩ (by rw[Array.getElem?_eq_none];rw[(hv.length)];simp) λh' he'=>?_
   exact h h' s.toks λb o z g=>he' b o z g
  ·exact nomatch hok
theorem FT{b:Array UInt8}{i:Nat}{u:V}(h:((b.toList.map (·.toNat)).map λn=>V.int ((n:Nat):Int))[i]? =some u):∃c,b[i]? =some c∧u=.int ((c.toNat:Nat):Int):=by
 simp only[List.getElem?_map,jP,Option.map_map,Option.map_eq_some_iff] at h
 obtain⟨c,hc,rfl⟩:=h
 exact⟨c,hc,rfl⟩
theorem Dm{v:V}{σ:aa}{l:List V}{G:Prop}(h:jf v σ=some l)(k1:v=.tup l→G)(k2:v=.lst l→G)(k3:∀l',v=.aM l'→(l'.map λn:Nat=>V.int n)=l→G)(k4:∀n,v=.rJ n→0≤n∧n≤1000→upTo 0 n.toNat=l→G)(k5:∀x,v=.loc x→σ[x]? =some (.list l)→G):G:=by
 cases v<;>first|exact fY h|skip
 ·exact k3 _ rfl (aX h)
 ·exact k1 (aj V.tup (aX h))
 ·exact k2 (aj V.lst (aX h))
 ·exact fJ h λc h=>k4 _ rfl c (aX h)
 ·exact Ew h λl' e h=>k5 _ rfl (aX h▸e)
theorem xr{A:Around}(hh:A.handled=none){a:Addr}{μ:Mu}{σ:aa}{s:Shared}(S:St X μ σ s)(ha:∃o,s.heap.get? a=some o){v:V}{y:Value}{l:List V}(hv:VR X μ s.heap v y)(he:jf v σ=some l)(RN:∀o,s.heap.get? a=some o→fc o=false)
  {Q:Value→Shared→Prop}{E:Value→Shared→Prop}
  (h:∀I T(s₂:Shared),Src X A (dm v σ) a I l T→s.heap.get? I=none→¬bL μ I→(∀b o,s.heap.get? b=some o→s₂.heap.get? b=some o)→T 0 μ σ s₂.heap→St X μ σ s₂→Q (.ref I) s₂):wpAny (model X.prog X.w) A (pyIter y) Q E s:=by
 have dead:s.heap.get? s.heap.objs.size=none:=kC (bS _)
 have no:=S.fresh
 have low:=S.low dead
 obtain⟨oa,ga⟩:=ha
 have Oo:s.heap.objs.size≠a:=λz=>sN (z▸ga) dead
 have push:∀o b x,s.heap.get? b=some x→(s.heap.push o).get? b=some x:=λo b x g=>gX o g
 clear ga
 refine Dm he (λyM=>?_) (λyM=>?_) (λl' yM Fo=>?_) (λk yM hk Fo=>?_) (λx yM ho=>?_)
 ·subst yM
  simp only[VR] at hv
  obtain⟨t,az,k,rfl,nt,g,hvs⟩:=hv
  have hl:List.length _=_:=hvs.length
  simp only[gV] at hl
  have bT:t≠s.heap.objs.size:=λz=>sN (z▸g) dead
  have Oq:t≠a:=λz=>by subst z;have:=RN _ g;simp[fc] at this
  have Wk:=Walks.tuple (prog:=X.prog) (w:=X.w) hh s.heap.objs.size t bT az
  refine wpAny_pyIter_tuple ⟨_,g,rfl,_,rfl⟩ ?_
  refine h _ _ _ (Src.of (fp:=[s.heap.objs.size,t]) (P:=λi v=>az[i]? =some v) (W:=λi h=>h.IsTupleIter s.heap.objs.size t i∧h.IsTuple t az) (λμ h=>bN X μ h l az.toList) (by simp) low (by simp[Oo,Oq])
   (λi h' w=>by obtain⟨⟨o,g,c,d⟩,_⟩:=w;exact⟨o,_,_,g,c,by decide,d⟩) Wk.frame (λi s Q E hi=>Wk.item i s Q E (by omega)) (λs Q E w=>Wk.done s Q E (hl▸w)) (λμ bA h h' e r=>bN.bI e _ _ r)
   (λi u v μ h hu r hp=>by
    obtain⟨y,hy,ya⟩:=bN.at r hu
    rw[jP,hp] at hy;cases hy;exact ya)) dead no (push _) ?_ (S.push _ _)
  exact⟨⟨⟨_,dz _ rfl,rfl,rfl⟩,⟨_,push _ _ _ g,rfl,_,rfl⟩⟩,by
   intro b hb
   simp only[List.mem_cons,iO,or_false] at hb
   rcases hb with rfl|rfl
   ·exact⟨no,_,dz _ rfl⟩
   ·exact⟨nt,_,push _ _ _ g⟩,bN.bI (cU.push _).v _ _ hvs⟩
 ·subst yM
  simp only[VR] at hv
  obtain⟨t,az,k,rfl,nt,g,hvs⟩:=hv
  have hl:List.length _=_:=hvs.length
  simp only[gV] at hl
  have bT:t≠s.heap.objs.size:=λz=>sN (z▸g) dead
  have Oq:t≠a:=λz=>by subst z;have:=RN _ g;simp[fc] at this
  have Wk:=Walks.list (prog:=X.prog) (w:=X.w) hh s.heap.objs.size t bT az
  refine wpAny_pyIter_list ⟨_,g,rfl,_,rfl⟩ ?_
  refine h _ _ _ (Src.of (fp:=[s.heap.objs.size,t]) (P:=λi v=>az[i]? =some v) (W:=λi h=>h.IsListIter s.heap.objs.size t i∧h.IsList t az) (λμ h=>bN X μ h l az.toList) (by simp) low (by simp[Oo,Oq])
   (λi h' w=>by obtain⟨⟨o,g,c,d⟩,_⟩:=w;exact⟨o,_,_,g,c,by decide,d⟩) Wk.frame (λi s Q E hi=>Wk.item i s Q E (by omega)) (λs Q E w=>Wk.done s Q E (hl▸w)) (λμ bA h h' e r=>bN.bI e _ _ r)
   (λi u v μ h hu r hp=>by
    obtain⟨y,hy,ya⟩:=bN.at r hu
    rw[jP,hp] at hy;cases hy;exact ya)) dead no (push _) ?_ (S.push _ _)
  exact⟨⟨⟨_,dz _ rfl,rfl,rfl⟩,⟨_,push _ _ _ g,rfl,_,rfl⟩⟩,by
   intro b hb
   simp only[List.mem_cons,iO,or_false] at hb
   rcases hb with rfl|rfl
   ·exact⟨no,_,dz _ rfl⟩
   ·exact⟨nt,_,push _ _ _ g⟩,bN.bI (cU.push _).v _ _ hvs⟩
 ·subst yM Fo
  refine VR.BH hv λt b nt g UN=>?_
  have hl:(l'.map λn=>V.int ((n:Nat):Int)).length=b.size:=by rw[←UN];simp
  have bT:t≠s.heap.objs.size:=λz=>sN (z▸g) dead
  have Oq:t≠a:=λz=>by subst z;have:=RN _ g;simp[fc] at this
  refine Dl g ?_
  refine h _ _ _ (Src.of (fp:=[s.heap.objs.size,t]) (P:=λi v=>∃c t,b[i]? =some c∧v=.int ((c.toNat:Nat):Int) t) (W:=λi h=>k8 h s.heap.objs.size t i∧h.get? t=some (cL b)) (λμ h=>True) (by simp) low (by simp[Oo,Oq])
   (λi h' w=>by obtain⟨⟨o,g,c,d⟩,_⟩:=w;exact⟨o,_,_,g,c,by decide,d⟩)
   (λi h h' w k=>by obtain⟨⟨o,g,c,d⟩,g2⟩:=w;exact⟨⟨o,k _ (by simp) o g,c,d⟩,k _ (by simp) _ g2⟩)
   (λi s₁ Q E hi w hq=>by
    have w1:=w.1
    have w2:=w.2
    refine xq w1 w2 (c:=b[i]'(by exact iN hi hl)) (Array.getElem?_eq_getElem _) λh' tk t' LP jF=>?_
    exact hq _ h' tk ⟨_,t',Array.getElem?_eq_getElem _,rfl⟩ ⟨LP,(jF.2 t bT).trans w2⟩ λb o hb g=>(jF.2 b (by simpa using hb)).trans g)
   (λs₁ Q E w hq=>by
    refine dF w λw1 w2=>?_
    refine zh hh w1 w2 (by rw[hl];simp) λh' he'=>?_
    exact hq h' s₁.toks λb o hb g=>he' b o (by simpa using hb) g) (λ_ _ _ _ _ r=>r)
   (λi u v μ h hu r hp=>by
    obtain⟨c,t',hc,rfl⟩:=hp
    rw[←UN] at hu
    refine aA (FT hu) λc' hc' cW=>?_
    refine ay cW ?_
    obtain rfl:=sU hc hc'
    exact xo _ _)) dead no (push _) ?_ (S.push _ _)
  exact⟨⟨⟨_,dz _ rfl,rfl,rfl⟩,push _ _ _ g⟩,by
   intro b hb
   simp only[List.mem_cons,iO,or_false] at hb
   rcases hb with rfl|rfl
   ·exact⟨no,_,dz _ rfl⟩
   ·exact⟨nt,_,push _ _ _ g⟩,trivial⟩
 ·subst yM Fo
  refine VR.HQ hv λt t1 t2 t3 nt g=>?_
  have l9:Builtin.Range.rangeSize 0 k 1=(k.toNat:Int):=by rw[rangeSize_one];split<;>(first|exact Int.le_antisymm (lD [_,_] 1 (.sub vA (.num 0)) vB [.l 1 vA vB] aI (Int.self_le_toNat _)) (lD [_,_] 1 vA (.sub vB (.num 0)) [.e 1 vA vB] aI (Int.toNat_of_nonneg (Int.le_of_lt ‹0<k›)))|exact Int.le_antisymm (fF _) ((Int.le_trans (Int.le_of_eq (Int.toNat_of_nonneg (hk.1))) (Int.not_lt.mp ‹¬0<k›))))
  have hl:(upTo 0 k.toNat).length=k.toNat:=rm _ _
  have Wk:=Walks.range (prog:=X.prog) (w:=X.w) hh s.heap.objs.size 0 1 k.toNat
  refine wpAny_pyIter_range (a:=0) (b:=k) (c:=1) g (PySem.small_one (by exact lD [] 1 (.neg (.num 4611686018427387904)) (.num 0) [] aI) (by exact ltI [] 1 (.num 0) (.num 4611686018427387904) [] aI) (by exact lD [_] 1 (.neg (.num 4611686018427387904)) vA [.l 1 (.num 0) vA] aI hk.1) (by exact ltI [_] 1 vA (.num 4611686018427387904) [.l 1 vA (.num 1000)] aI hk.2)) ?_
  refine h _ _ _ (Src.of (fp:=[s.heap.objs.size]) (P:=λi v=>∃t,v=.int (0+(i:Int)*1) t) (W:=λi h=>IsRangeIter h s.heap.objs.size (0+(i:Nat)*1) ((k.toNat:Int)-(i:Nat)) 1) (λμ h=>True) (by simp) low (by simp[Oo])
   (λi h' w=>⟨_,_,_,w,rfl,by decide,rfl⟩) Wk.frame (λi s Q E hi=>Wk.item i s Q E (by exact iN hi hl)) (λs Q E w=>Wk.done s Q E (by rw[hl] at w;exact w)) (λ_ _ _ _ _ r=>r)
   (λi u v μ h hu r hp=>by
    obtain⟨t,rfl⟩:=hp
    have lU:=(eY hu).1
    rw[hl] at lU
    clear hk hl
    obtain rfl:=sU (BZ 0 i _ lU) hu
    have ei:(0:Int)+(i:Int)*1=((0+i:Nat):Int):=by exact Int.le_antisymm (lD [_] 1 (.add (.num 0) (.mulR vA 1)) (.add (.num 0) vA) [] aI) (lD [_] 1 (.add (.num 0) vA) (.add (.num 0) (.mulR vA 1)) [] aI)
    rw[ei];exact xo _ _)) dead no (push _) ?_ (S.push _ _)
  refine⟨?_,by
   intro b hb
   simp only[List.mem_cons,iO,or_false] at hb
   refine ay hb ?_
   exact⟨no,_,dz _ rfl⟩,trivial⟩
  show IsRangeIter _ _ _ _ _
  refine ay l9 (?_)
  exact dz _ rfl
 ·subst yM
  refine VR.qs hv λp hp=>?_
  obtain⟨e2,az,k,g,hvs⟩:OR X μ s.heap p (.list l):=S.obj x _ p ho hp
  refine wpAny_pyIter_list ⟨_,g,rfl,_,rfl⟩ ?_
  have e:dm (.loc x) σ=λτ=>match τ[x]? with|some (.list b)=>decide (l=b)|_=>false:=by
   funext τ
   simp only[dm,ho]
   cases τ[x]? with
   |none=>rfl
   |some o=>cases o<;>rfl
  refine h _ _ _ (e▸Src.cell hh low Oo) dead no (push _) ⟨p,hp,⟨_,dz _ rfl,rfl,rfl⟩,no⟩ (S.push _ _)
theorem LQ(B:bE X mg mb)(x:Nat){it:ME}{b:List MS}(hi:SE X n xs it)(hb:SB X n xs b):SS X n xs (.for x it b):=by
 intro A env ls ρ σ fl ρ' τ μ s st hR hc F S he Q E hQ
 refine bw he λv σ1 h1 he=>?_
 dsimp only at he
 refine aA (bind_some he) λl h2 he=>?_
 refine FH hc λt p j body q c1 c2 c3=>?_
 refine wpAny_For (hi A env ls ρ σ _ _ μ s _ hR c2 F S h1 _ _ λao y s₁ E₁ S₁ aU=>?_) (iB c2 (cQ h1) env)
 have F₁:=F.mono E₁
 refine xr hR.1 S₁ F₁.at aU h2 F₁.ie λI T s₂ Sr dI no hk hT S₂=>?_
 refine vU hR Sr (zg B c1) hb c3 (F₁.mono (cU.more hk)) S₂ hT no he Q E λbA f s' EJ S' F' R'=>?_
 exact hQ _ _ _ (E₁.l.trans (EJ.close hk dI F₁.at)) S' F' R'
theorem Im(B:bE X mg mb)(ys:List Nat){it:ME}{b:List MS}(hi:SE X n xs it)(hb:SB X n xs b):SS X n xs (.wz ys it b):=by
 intro A env ls ρ σ fl ρ' τ μ s st hR hc F S he Q E hQ
 refine bw he λv σ1 h1 he=>?_
 dsimp only at he
 refine aA (bind_some he) λl h2 he=>?_
 refine Ie hc λelts k p j body q c1 c2 c3=>?_
 refine wpAny_For (hi A env ls ρ σ _ _ μ s _ hR c2 F S h1 _ _ λao y s₁ E₁ S₁ aU=>?_) (iB c2 (cQ h1) env)
 have F₁:=F.mono E₁
 refine xr hR.1 S₁ F₁.at aU h2 F₁.ie λI T s₂ Sr dI no hk hT S₂=>?_
 refine vU hR Sr (Dk B hR c1) hb c3 (F₁.mono (cU.more hk)) S₂ hT no he Q E λbA f s' EJ S' F' R'=>?_
 exact hQ _ _ _ (E₁.l.trans (EJ.close hk dI F₁.at)) S' F' R'
noncomputable def RO(X:Ctx)(env:PySem.Env)(ls:List (Option Nat))(ρ:Env)(μ:Mu)(h:Heap)(m:Str→Option Value):Prop:=∀(i n:Nat)(v:V),ls[i]? =some (some n)→ρ[i]? =some (some v)→
  (env.kindOf (X.NM n)=some .local∧∃x,m (X.NM n)=some x∧VR X μ h v x)∨
  ((env.kindOf (X.NM n)=some .cell∨(env.kindOf (X.NM n)=some .free∧X.NM n≠"__classdict__"))∧∃c x,env.cells.lookup (X.NM n)=some c∧¬bL μ c∧h.IsCell c (some x)∧VR X μ h v x)
theorem gP.stored(B:bE X mg mb){env:PySem.Env}{ls:List (Option Nat)}{ρ:Env}{μ bA:Mu}{h h':Heap}(F:gP X env ls ρ μ h){m:Str→Option Value}(hn:h.Ns env.locals m)(hm:RO X env ls ρ μ h m){x:Nat}{t:Str}(hx:eZ ⟨X.NM,xs⟩ env.scope ls x t=true){u:V}{y:Value}
  (hn':h'.Ns env.locals (λz=>if z=t then some y else m z))(hk:∀b o,b≠env.locals→h.get? b=some o→h'.get? b=some o)(pre:∃t,bA=μ++t∧∀p∈t,h.get? p.1=none∧h.get? p.2=none)(hu:VR X bA h' u y):gP X env ls (ρ.set x (some u)) bA h':=by
 simp only[eZ,Bool.and_eq_true,beq_iff_eq] at hx
 obtain⟨h1,h2⟩:=hx
 refine K7 h1 λa ha h1=>?_
 have ht:X.NM a=t:=cz h1
 clear h1
 subst ht
 have EL:ef env.locals μ bA h h':=⟨pre,λb o z n g=>hk b o z g,λb o n g=>⟨o,hk b o (λz=>F.own (z▸n)) g⟩,λo g=>mU hn'⟩
 have EV:gG μ bA h h':=EL.v F.ie
 refine⟨by obtain⟨o,g⟩:=F.at;exact EL.eV F.own g,F.low,F.kind,F.glob,F.blt,F.cells,F.nodup,F.lt,_,hn',λi b v hi hv=>?_⟩
 by_cases e:i=x
 ·clear h1
  subst e
  cases ha.symm.trans hi
  left
  have aV:i<ρ.length:=by
   rcases Nat.lt_or_ge i ρ.length with q|q
   ·exact q
   ·rw[List.set_eq_of_length_le q,List.getElem?_eq_none q] at hv;cases hv
  replace hv:=(List.getElem?_set_self aV)▸hv
  cases hv
  exact⟨h2,y,by simp,hu⟩
 ·clear h2 h1 hn'
  replace hv:=(List.getElem?_set_ne (λz=>e z.symm))▸hv
  have bT:X.NM b≠X.NM a:=λz=>by
   have:=B.inj b a (F.lt i b hi) (F.lt x a ha) z
   subst this
   exact e (F.nodup i x b hi ha)
  rcases hm i b v hi hv with⟨q,z,w,g⟩|⟨q,c,z,hc,no,⟨oc,g,gd⟩,w⟩
  ·exact .inl ⟨q,z,by rw[aB bT];exact w,VR.bI EV _ _ g⟩
  ·right
   have Ly:c≠env.locals:=λz'=>by
    refine KV hn λo es ep ho hd _=>?_
    rw[←z',g] at ho
    obtain rfl:=aX ho
    cases hd.symm.trans gd
   exact⟨q,c,z,hc,EL.eV no g,⟨oc,hk c _ Ly g,gd⟩,VR.bI EV _ _ w⟩
theorem FU{μ:Mu}{h:Heap}:∀{l:List V}{ys:List Value},ys.length=l.length→(∀(k:Nat) u,l[k]? =some u→∃y,ys[k]? =some y∧VR X μ h u y)→bN X μ h l ys
 | [],ys,e,_=>by simp only[bN];exact List.length_eq_zero_iff.mp e
 |u::r,ys,e,g=>by
  cases ys with
  |nil=>cases e
  |cons y q=>
   refine⟨y,q,rfl,?_,FU (by simpa using e) λk v hv=>?_⟩
   ·refine aA (g 0 u rfl) λz hz w=>?_
    cases hz;exact w
   ·simpa using g (k+1) v (‹_›)
set_option tactic.hygienic true in
theorem qE {es : List (V × V)} : ∀ {names vals : List V}, rowsOf es names = some vals → vals.length = names.length ∧ ∀ (k : Nat) u, names[k]? = some u → ∃ nm v, u = .str nm ∧ vals[k]? = some v ∧ aQ es (.str nm) = some v
  | [], vals, h => by cases h; exact ⟨rfl, fun k u e => by simp at e⟩
  | a :: r, vals, h => by
    cases a <;> simp only [rowsOf] at h <;> try (cases h; done)
    rename_i nm
    refine aA (bind_some h) fun v h1 h => ?_
    refine aA (map_some h) fun vs h2 cW => ?_
    clear h
    refine uE cW ?_
    refine dF (qE h2) fun i1 i2 => ?_
    refine ⟨by simp [i1], fun k u e => ?_⟩
    cases k with
    | zero => simp at e; subst e; exact ⟨nm, v, rfl, rfl, h1⟩
    | succ k => simpa using i2 k u (by simpa using e)
theorem rB(B:bE X mg mb){A:Around}{env:PySem.Env}{ls:List (Option Nat)}{ρ:Env}{μ:Mu}{σ:aa}{s₁ s₃:Shared}(F:gP X env ls ρ μ s₁.heap)(S:St X μ σ s₁){d l:Nat}{es:List (V × V)}(hd:ρ[d]? =some (some (.loc l)))(ho:σ[l]? =some (.dict 2 es))
  {cs:Scope}(hok:gZ env.scope cs=true){dn kt:Str}(hcap:u0 ⟨X.NM,xs⟩ cs ls d dn=true)(hkt:cs.names.lookup kt=some .local)(hkd:kt≠("__debug__":Str)){C:Addr}{m:Str→Option Value}{nm:Nat}{v:V}{tk:Tok}
  (hn:s₃.heap.Ns C m)(hm:m kt=some (.str (X.NM nm) tk))(hnm:nm<aO.length)(keep:∀b o,s₁.heap.get? b=some o→s₃.heap.get? b=some o)(hf:aQ es (.str nm)=some v){pa pb pos:Pos}{Q:Value→Shared→Prop}{E:Value→Shared→Prop}
  (h:∀y k,VR X μ s₁.heap v y→Q y {s₃ with toks:=k}):wpAny (model X.prog X.w) A (eval (.Subscript (.Name dn pa) (.Name kt pb) pos) (compEnvC cs (xg env cs.names []) C env)) Q E s₃:=by
 simp only[u0,Bool.and_eq_true,bne_iff_ne] at hcap
 obtain⟨⟨⟨h1,h2⟩,h3⟩,h4⟩:=hcap
 refine K7 h1 λa ha h1=>?_
 have ht:X.NM a=dn:=cz h1
 clear h4 h1
 subst ht
 simp only[gZ,Bool.and_eq_true,List.all_eq_true,beq_iff_eq,Bool.or_eq_true,bne_iff_ne] at hok
 obtain⟨⟨hk,hg⟩,hall⟩:=hok
 have hfree:cs.names.lookup (X.NM a)=some .free:=by simpa[mz] using h2
 have hmem:=jH hfree
 have hcell:env.kindOf (X.NM a)=some .cell:=by
  rcases(hall _ hmem).2 with q|q
  ·exact absurd rfl q
  ·exact q.1
 have frees:∀y∈cs.names,y.2=.free→∃c,env.cells.lookup y.1=some c:=λy hy e=>by
  rcases(hall y hy).2 with q|q
  ·exact absurd e q
  ·exact F.cells _ q.1
 have hclo:=Fw (env:=env) (names:=cs.names) (cs:=[]) frees (λx c q=>by simp at q)
 refine aA F.ns λm0 hm0 hv0=>?_
 rcases hv0 d a _ ha hd with⟨q,_⟩|⟨q,c,z,hc,no,ic,w⟩
 ·cases hcell.symm.trans q
 ·obtain⟨c',hc'⟩:=Option.isSome_iff_exists.mp (hclo.2 (X.NM a) (.inr hmem))
  have:=hclo.1 _ _ hc'
  replace this:=(hc)▸this
  refine dY λG hG=>?_
  obtain rfl:=aX this
  simp only[VR] at w
  obtain⟨pr,hp,rfl⟩:=w
  obtain⟨_,kvs,D,Pr⟩:OR X μ s₁.heap pr (.dict 2 es):=S.obj l _ pr ho hp
  refine aA ((jb.find (rel:=rK X) (k:= .str nm) (j:=X.NM nm) (iV B hnm) Pr).1 v hf) λy' hy' hr=>?_
  have D3:s₃.heap.DictOf (PySem.strKind X.prog X.w) pr.1 kvs:=D.at λo e=>keep _ o e
  refine bK (gw (.Name kt pb) (.ref pr.1) (.str (X.NM nm) tk)) λops hsub=>?_
  refine hG ?_
  refine Subscript_ (wpAny_Name (wpAny_loadName_cell hk (jh F.kind hcell hfree) hc' (ic.keeps keep) ?_) (iQ h3))
  refine wpAny_Name (wpAny_loadName_local hk (lookup_relabel_local hkt) hn hm ?_) (iQ hkd)
  exact tail_any D3.typeIs slot_dict_getitem.lookup (wpAny_getItem_of (knd:=PySem.strKind X.prog X.w) (k:=X.NM nm) (by simp[PySem.strKind,Value.isStrOf]) D3.mapOf hy' (h _ _ hr)) hsub
theorem AP{elt:Expr}{gs:List Comprehension}{cs:Scope}{p0 p1 p2:Pos}{t:Str}{env:PySem.Env}(hk:env.scope.kind=.function)(hl:env.kindOf t=some .local)(h1:p0.line=p1.line)(h2:(cs.names.any λy=>y.1==t&&(y.2== .local||y.2== .cell))=false):
  swapsWith (.ListComp elt gs cs p1) (some (.Name t p0)) p2.line env=pure true:=by
 refine(?_:(pure (env.blockKind== .function&&env.kindOf t==some .local&&p0.line==p1.line&& !(cs.names.any λ(n,k)=>n==t&&(k== .local||k== .cell))):Sem Bool)=pure true)
 refine((by unfold Env.blockKind;rw[hk];rfl:(env.blockKind==ScopeKind.function)=true))▸hl▸h1▸h2▸ ?_
 simp
set_option tactic.hygienic true in
theorem tT {v : V} {o : Option (Option V)} {σ : aa} {names vs : List V} {G : Prop} (h : j6 v o σ = some (names, vs)) (k : ∀ l es, v = .lst names → o = some (some (.loc l)) → σ[l]? = some (.dict 2 es) → names.length ≤ 1000 → rowsOf es names = some vs → G) : G := by
  unfold j6 at h
  cases v <;> first | exact fY h | skip
  rename_i ns
  rcases o with _ | (_ | u) <;> first | exact fY h | skip
  cases u <;> first | exact fY h | skip
  rename_i l
  dsimp only at h
  generalize hz : σ[l]? = z at h
  rcases z with _ | (_ | ⟨j, es⟩ | _) <;> first | exact fY h | skip
  rcases j with _ | _ | _ | j <;> first | exact fY h | skip
  refine fJ h fun c h => ?_
  refine aA (map_some h) fun w hw e => ?_
  cases e
  exact k _ _ rfl rfl hz c hw
theorem AQ(B:bE X mg mb)(x d k:Nat){it:ME}(hi:SE X n xs it):SS X n xs (.jQ x d k it):=by
 intro A env ls ρ σ fl ρ' τ μ s st hR hc F S he Q E hQ
 refine dY λG hG=>?_
 refine bw he λv σ1 h1 he=>?_
 dsimp only at he
 refine Ad he λnames vals hf e2=>?_
 clear he
 refine tT hf λl es bP hd ho aV h2=>?_
 subst bP
 refine hG ?_
 refine AA hc λt p0 dn q1 kn q2 q3 kt q4 j cs p1 p2 c1 c2 c3 c4 c5 c6 c7 c8 c9 AR HA=>?_
 subst c4
 refine sJ (jI c2) λk1 k2 k3 k4=>?_
 obtain⟨n9,mh⟩:=qE h2
 have mV:env.kindOf t=some .local:=by
  simp only[eZ,Bool.and_eq_true,beq_iff_eq] at c1
  exact c1.2
 refine ay (exec_Assign_Name_used _ _ _ _ (AP F.kind mV c7 c9)) ?_
 refine au (wpAny_standAt (au ?_))
 refine au (fq (wpAny_comprehension_free (use:=some (assign (.Name t p0) env)) (Q:=λ_ s'=>Q .next s') rfl (iB HA (cQ h1) env) (F.closure c2) k2 k3
  (hi A env ls ρ σ _ _ μ s _ hR HA F S h1 _ _ λao xv s₁ E₁ S₁ aU=>?_)) (λ_ s' hq=>aT (aT hq)) λ_ _ e=>e)
 have F₁:=F.mono E₁
 refine VR.qu aU λad az nn na ga hvs=>?_
 have hil:List.length _=_:=hvs.length
 simp only[gV] at hil
 refine wpAny_pyIter_list ⟨_,ga,rfl,_,rfl⟩ ?_
 refine aA F₁.ns λm hm hv0=>?_
 have push:∀b o,s₁.heap.get? b=some o→(s₁.heap.push {cls:= .type "list_iterator",data:= .fields #[.ref ad,.int 0 0]}).get? b=some o:=λb o g=>gX _ g
 refine comp_block_walkC (RR:=λacc C=>compPost (model X.prog X.w) A E (some (assign (.Name t p0) env)) (λ_ s'=>Q .next s') acc C) (Walks.list hR.1 s₁.heap.objs.size ad (Nat.ne_of_lt (dh ga)) az) (by rw[sizeLine_eq];exact cP [_,_] 1 vA (.num 16777216) [.l 1 vB (.num 1000),.f 1 vB vA] aI aV hil) (λ_=>true)
  (λa b=>∃nm t v,nm<aO.length∧a=.str (X.NM nm) t∧aQ es (.str nm)=some v∧VR X ao s₁.heap v b) k1 k2 c3 ⟨⟨_,dz _ rfl,rfl,rfl⟩,⟨_,push _ _ ga,rfl,_,rfl⟩⟩ ?_ ⟨λC i v s₃ m₃ E' hC hv hn hm hk htk=>?_,λC i v s₃ m₃ E' hC hv _ hn hm hk htk=>?_⟩ ?_
 ·intro b hb
  clear na aU
  simp only[List.mem_cons,iO,or_false] at hb
  rw[Heap.size_push]
  rcases hb with rfl|rfl
  ·exact Nat.lt_succ_self _
  ·exact Nat.lt_succ_of_lt (dh ga)
 ·exact wpAny_tests_nil ⟨rfl,s₃.heap,s₃.toks,rfl,λ_ _ g=>g⟩
 ·have keep:∀b o,s₁.heap.get? b=some o→s₃.heap.get? b=some o:=λb o g'=>hk b o (by simp;exact Nat.ne_of_lt (dh g')) (push b o g')
  have lU:i<names.length:=by have:=(Array.getElem?_eq_some_iff.mp hv).1;exact(iN this (Eq.symm hil))
  refine dY λG hG=>?_
  refine fj (mh i _ (iw lU)) λnm v' e1 e2 e3=>?_
  refine aA (hvs.at (iw lU)) λy hy ya=>?_
  rw[jP,hv] at hy
  clear hv he S hc hR hi
  obtain rfl:=aX hy
  rw[e1] at ya
  obtain⟨hnm,tk,rfl⟩:=ya
  refine hG ?_
  refine rB B F₁ S₁ hd ho c2 AR c3 c5 hn hm hnm keep e3 λy k hy=>?_
  exact⟨⟨nm,tk,v',hnm,rfl,e3,hy⟩,s₃.heap,k,rfl,λ_ _ g=>g⟩
 ·intro D C h' tk m' ys vs hD hC hDC RP UO LR hvl hP hF hk
  have keep:∀b o,s₁.heap.get? b=some o→h'.get? b=some o:=λb o g'=>hk b o (by simp;exact Nat.ne_of_lt (dh g')) (push b o g')
  have dead:∀b,(s₁.heap.push {cls:= .type "list_iterator",data:= .fields #[.ref ad,.int 0 0]}).get? b=none→s₁.heap.get? b=none:=λb g=>by
   cases q:s₁.heap.get? b with
   |none=>rfl
   |some o=>cases(push b o q).symm.trans g
  have dD:=dead D hD
  have dC:=dead C hC
  have Ot:env.locals≠C:=by rintro rfl;obtain⟨o,g⟩:=F₁.at;cases dC.symm.trans g
  have RQ:env.locals≠D:=by rintro rfl;obtain⟨o,g⟩:=F₁.at;cases dD.symm.trans g
  refine bK LR λnD LR=>?_
  refine wpAny_assign_Name (wpAny_storeName_local mV (hm.keeps keep) (λh₂ hn₂ hs₂=>?_) (by rw[F.kind];rfl))
  refine⟨m',RP.sameBut hs₂ (Ne.symm Ot),λh₃ mW=>?_⟩
  have oh:∀b o,b≠env.locals→s₁.heap.get? b=some o→h₃.get? b=some o:=λb o hb g=>mW.extBut b o (λz=>sN (z▸g) dC) (hs₂.extBut b o hb (keep b o g))
  have FW:h₃.Ns env.locals (λz=>if z=t then some (.ref D) else m z):=hn₂.sameBut mW Ot
  have hu:VR X ao h₃ (.lst vals) (.ref D):=by
   refine⟨D,ys,nD,rfl,S₁.kX dD,mW.extBut _ _ hDC (hs₂.extBut _ _ (Ne.symm RQ) LR),?_⟩
   replace hF:=(List.filter_eq_self.mpr (λ_ _=>rfl))▸hF
   have hyl:=Paired.length hF
   refine FU (by exact dH ((cG (Eq.trans (Eq.trans (Eq.trans (Eq.symm hyl) hvl) (Eq.symm hil)) (Eq.symm n9)))) ((cG (Eq.trans (Eq.trans (Eq.trans n9 hil) (Eq.symm hvl)) hyl)))) λk' u UP=>?_
   have hkv:k'<vs.length:=by have:=(eY UP).1;exact(iN (iN (iN this n9) hil) (Eq.symm hvl))
   refine dY λG hG=>?_
   obtain⟨b,hb,nm,t4,v4,hnm,e1,e2,e3⟩:=vS hF k' vs[k'] (iw hkv)
   refine hG ?_
   refine⟨b,hb,?_⟩
   have g8:=hP k' vs[k'] (iw hkv)
   have lU:k'<names.length:=by exact(iN (iN hkv hvl) (Eq.symm hil))
   refine dY λG hG=>?_
   refine fj (mh k' _ (iw lU)) λRK v' f1 f2 f3=>?_
   refine aA (hvs.at (iw lU)) λy hy ya=>?_
   rw[jP,g8] at hy
   obtain rfl:=aX hy
   rw[f1,e1] at ya
   simp only[VR,Value.str.injEq] at ya
   obtain⟨hn',t5,g1,g2⟩:=ya
   refine hG ?_
   have:=B.inj nm RK hnm hn' g1
   subst this
   obtain rfl:=sU e2 f3
   obtain rfl:=sU UP f2
   exact VR.bI (gG.here F₁.ie oh) _ _ e3
  exact(hQ.oq e2) ao _ {s₁ with heap:=h₃,toks:=_} (E₁.l.trans (⟨⟨[],by simp,by simp⟩,λb o z n g=>oh b o z g,λb o n g=>⟨o,oh b o (λz=>F₁.own (z▸n)) g⟩,λo g=>mU FW⟩:ef env.locals ao ao s₁.heap h₃)) (S₁.rO (s':={s₁ with heap:=h₃,toks:=_}) F₁.own F₁.ie F₁.low oh) (F₁.stored B hm hv0 c1 FW oh ⟨[],by simp,by simp⟩ hu) rfl
theorem AS{ke ve:Expr}{gs:List Comprehension}{cs:Scope}{p0 p1 p2:Pos}{t:Str}{env:PySem.Env}(hk:env.scope.kind=.function)(hl:env.kindOf t=some .local)(h1:p0.line=p1.line)(h2:(cs.names.any λy=>y.1==t&&(y.2== .local||y.2== .cell))=false):
  swapsWith (.DictComp ke ve gs cs p1) (some (.Name t p0)) p2.line env=pure true:=by
 refine(?_:(pure (env.blockKind== .function&&env.kindOf t==some .local&&p0.line==p1.line&& !(cs.names.any λ(n,k)=>n==t&&(k== .local||k== .cell))):Sem Bool)=pure true)
 refine((by unfold Env.blockKind;rw[hk];rfl:(env.blockKind==ScopeKind.function)=true))▸hl▸h1▸h2▸ ?_
 simp
theorem xu{M:Model}{A:Around}{E:Value→Shared→Prop}{s:Shared}{Q Q':Value→Shared→Prop}(h:wpAny M A newDict Q E s)
  (k:Q (.ref s.heap.objs.size) {s with heap:=s.heap.push {cls:= .type "dict",data:= .dict #[]}}→Q' (.ref s.heap.objs.size) {s with heap:=s.heap.push {cls:= .type "dict",data:= .dict #[]}}):wpAny M A newDict Q' E s:=
 λΓ p hΓ=>k (h Γ p hΓ)
theorem rP{K:Type} [DecidableEq K]{FK:Value→K→Prop}{FV:Value→Value→Prop}{l:List Value}{kvs:List (K × Value)}(h:StoredAll FK FV l kvs):(kvs.map (·.1)).Nodup:=by
 induction h with
 |nil=>exact List.nodup_nil
 |snoc _ _ _ ih=>exact pS ih
theorem putAll_snoc(k v:V):∀(l d:List (V × V)),putAll d (l++[(k,v)])=cA (putAll d l) k v
 | [],d=>rfl
 |(a,b)::r,d=>by simp only[List.cons_append,putAll];exact putAll_snoc k v r _
theorem oi:∀(l d:List (V × V)),(putAll d l).length≤d.length+l.length
 | [],d=>by simp[putAll]
 |(a,b)::r,d=>by
  have h1:=oi r (cA d a b)
  have h2:∀d:List (V × V),(cA d a b).length≤d.length+1:=by
   intro d
   induction d with
   |nil=>simp[cA]
   |cons z q ih=>
    obtain⟨z1,z2⟩:=z
    simp only[cA]
    split
    ·simp
    ·simp only[List.length_cons];exact cP [_,_] 1 (.add vA (.num 1)) (.add (.add vB (.num 1)) (.num 1)) [.l 1 vA (.add vB (.num 1))] aI ih
  have h3:=h2 d
  simp only[putAll,List.length_cons]
  exact cP [_,_,_,_] 1 vA (.add vB (.add vC (.num 1))) [.l 1 vA (.add vD vC),.l 1 vD (.add vB (.num 1))] aI h1 h3
theorem AU(B:bE X mg mb){μ:Mu}{h:Heap}{FK:Value→Str→Prop}{FV:Value→Value→Prop}{l:List Value}{kvs:List (Str × Value)}(g:StoredAll FK FV l kvs):∀(zs:List (V × V)),zs.length=l.length→
  (∀(k:Nat) z v key y,zs[k]? =some z→l[k]? =some v→FK v key→FV v y→rK X z.1 key∧VR X μ h z.2 y)→jb (rK X) (VR X μ h) (putAll [] zs) kvs:=by
 induction g with
 |nil=>intro zs e _;have:=List.length_eq_zero_iff.mp e;subst this;simp[putAll,jb]
 | @snoc l kvs v key y hl hk hv ih=>
  intro zs e hz
  rw[eG,List.length_singleton] at e
  have bT:zs≠[]:=λq=>absurd e (q▸nofun)
  refine jo (⟨zs.dropLast,zs.getLast bT,(List.dropLast_concat_getLast bT).symm⟩:∃zs' z,zs=zs'++[z]) λzs' z cW=>?_
  clear bT
  subst cW
  rw[eG,List.length_singleton] at e
  have e':zs'.length=l.length:=by exact dH (cP [_,_] 1 vA vB [.e 1 (.add vA (.num 1)) (.add vB (.num 1))] aI e) (cP [_,_] 1 vA vB [.f 1 (.add vB (.num 1)) (.add vA (.num 1))] aI e)
  refine dF (hz l.length z v key y (by rw[←e',List.getElem?_append_right (bS _)];simp) (by rw[List.getElem?_append_right (bS _)];simp) hk hv) λr1 r2=>?_
  obtain⟨za,zb⟩:=z
  rw[putAll_snoc]
  refine gC (id r1) λnm hnm e1 e2=>?_
  dsimp only at e1 r1 r2
  subst e1 e2
  exact jb.put r1 (iV B hnm) r2 (ih zs' e' λk z' v' key' y' h1 h2 h3 h4=>hz k z' v' key' y' (by rw[List.getElem?_append_left (eY h1).1];exact h1) (by rw[List.getElem?_append_left (eY h2).1];exact h2) h3 h4) (rP hl)
theorem AV(B:bE X mg mb)(x d k:Nat){it:ME}(hi:SE X n xs it):SS X n xs (.jR x d k it):=by
 intro A env ls ρ σ fl ρ' τ μ s st hR hc F S he Q E hQ
 refine dY λG hG=>?_
 refine bw he λv σ1 h1 he=>?_
 dsimp only at he
 refine Ad he λnames vals hf e2=>?_
 clear he
 refine tT hf λl es bP hd ho aV h2=>?_
 subst bP
 refine hG ?_
 refine AD hc λt p0 HH q0 dn q1 kn q2 q3 kt q4 j cs p1 p2 c1 c2 c3 c4 Xk c5 c6 c7 c8 c9 AR HA=>?_
 subst c4 Xk
 refine sJ (jI c2) λk1 k2 k3 k4=>?_
 refine dF (qE h2) λn9 mh=>?_
 have mV:env.kindOf t=some .local:=by
  simp only[eZ,Bool.and_eq_true,beq_iff_eq] at c1
  exact c1.2
 refine ay (exec_Assign_Name_used _ _ _ _ (AS F.kind mV c7 c9)) ?_
 refine au (wpAny_standAt (au ?_))
 refine au (fq (wpAny_comprehension_free (use:=some (assign (.Name t p0) env)) (Q:=λ_ s'=>Q .next s') rfl (iB HA (cQ h1) env) (F.closure c2) k2 k3
  (hi A env ls ρ σ _ _ μ s _ hR HA F S h1 _ _ λao xv s₁ E₁ S₁ aU=>?_)) (λ_ s' hq=>aT (aT hq)) λ_ _ e=>e)
 have F₁:=F.mono E₁
 refine VR.qu aU λad az nn na ga hvs=>?_
 have hil:List.length _=_:=hvs.length
 simp only[gV] at hil
 refine wpAny_pyIter_list ⟨_,ga,rfl,_,rfl⟩ ?_
 refine aA F₁.ns λm hm hv0=>?_
 have push:∀b o,s₁.heap.get? b=some o→(s₁.heap.push {cls:= .type "list_iterator",data:= .fields #[.ref ad,.int 0 0]}).get? b=some o:=λb o g=>gX _ g
 have B0:∀(i:Nat) v,az[i]? =some v→∃nm t v',nm<aO.length∧v=.str (X.NM nm) t∧names[i]? =some (.str nm)∧vals[i]? =some v'∧aQ es (.str nm)=some v':=λi v hv=>by
  have lU:i<names.length:=by have:=(Array.getElem?_eq_some_iff.mp hv).1;exact(iN this (Eq.symm hil))
  refine dY λG hG=>?_
  refine fj (mh i _ (iw lU)) λnm v' e1 e2 e3=>?_
  refine aA (hvs.at (iw lU)) λy hy ya=>?_
  rw[jP,hv] at hy
  obtain rfl:=aX hy
  refine hG ?_
  rw[e1] at ya
  refine VR.EH ya λhnm tk=>?_
  exact⟨nm,tk,v',hnm,rfl,by rw[iw lU,e1],e2,e3⟩
 refine xu (comp_block_walkCD (knd:=PySem.strKind X.prog X.w) (env:=env) (cl:=xg env cs.names []) (kx:= .Name HH q0) (vx:= .Subscript (.Name dn q1) (.Name HH q2) q3) (iter:=j) (ifs:=[]) (pos:=p1) (px:=q4) (E:=E) (RR:=λacc C r s'=>acc=.ref (s₁.heap.objs.size+1)→compPost (model X.prog X.w) A E (some (assign (.Name t p0) env)) (λ_ s'=>Q .next s') acc C r s') (Walks.list hR.1 s₁.heap.objs.size ad (Nat.ne_of_lt (dh ga)) az) (by rw[sizeLine_eq];exact cP [_,_] 1 vA (.num 16777216) [.l 1 vB (.num 1000),.f 1 vB vA] aI aV hil) (λ_=>true)
  (λa key=>∃nm t,nm<aO.length∧a=.str (X.NM nm) t∧key=X.NM nm)
  (λa b=>∃nm t v,nm<aO.length∧a=.str (X.NM nm) t∧aQ es (.str nm)=some v∧VR X ao s₁.heap v b) k1 k2 c3 ⟨⟨_,dz _ rfl,rfl,rfl⟩,⟨_,push _ _ ga,rfl,_,rfl⟩⟩ ?_ ⟨λC i v s₃ m₃ E' hv hn hm hk=>?_,λC i v s₃ m₃ E' hv _ hn hm hk=>?_,λC i v s₃ m₃ E' hv _ hn hm hk=>?_⟩ ?_) ?_
 ·intro b hb
  clear na aU
  simp only[List.mem_cons,iO,or_false] at hb
  rw[Heap.size_push]
  rcases hb with rfl|rfl
  ·exact Nat.lt_succ_self _
  ·exact Nat.lt_succ_of_lt (dh ga)
 ·exact wpAny_tests_nil ⟨rfl,s₃.heap,s₃.toks,rfl,λ_ _ g=>g⟩
 ·refine KW (B0 i v hv) λnm tk v' hnm CP _ _ e3=>?_
  subst CP
  refine wpAny_Name (wpAny_loadName_local k2 (lookup_relabel_local c3) hn hm ?_) (iQ c5)
  exact⟨⟨X.NM nm,by simp[PySem.strKind,Value.isStrOf],nm,tk,hnm,rfl,rfl⟩,s₃.heap,s₃.toks,rfl,λ_ _ g=>g⟩
 ·have keep:∀b o,s₁.heap.get? b=some o→s₃.heap.get? b=some o:=λb o g'=>hk b o (by simp;exact Nat.ne_of_lt (dh g')) (push b o g')
  refine KW (B0 i v hv) λnm tk v' hnm CP _ _ e3=>?_
  subst CP
  refine rB B F₁ S₁ hd ho c2 AR c3 c5 hn hm hnm keep e3 λy k hy=>?_
  exact⟨⟨nm,tk,v',hnm,rfl,e3,hy⟩,s₃.heap,k,rfl,λ_ _ g=>g⟩
 ·intro D C h' tk m' kvs vs hD hC hDC RP UO hvl hP hF hk hacc
  have keep:∀b o,s₁.heap.get? b=some o→h'.get? b=some o:=λb o g'=>hk b o (by simp;exact Nat.ne_of_lt (dh g')) (push b o g')
  have dead:∀b,(s₁.heap.push {cls:= .type "list_iterator",data:= .fields #[.ref ad,.int 0 0]}).get? b=none→s₁.heap.get? b=none:=λb g=>by
   cases q:s₁.heap.get? b with
   |none=>rfl
   |some o=>cases(push b o q).symm.trans g
  have dD:=dead D hD
  have dC:=dead C hC
  have Ot:env.locals≠C:=by rintro rfl;obtain⟨o,g⟩:=F₁.at;cases dC.symm.trans g
  have RQ:env.locals≠D:=by rintro rfl;obtain⟨o,g⟩:=F₁.at;cases dD.symm.trans g
  refine wpAny_assign_Name (wpAny_storeName_local mV (hm.keeps keep) (λh₂ hn₂ hs₂=>?_) (by rw[F.kind];rfl))
  refine⟨m',RP.sameBut hs₂ (Ne.symm Ot),λh₃ mW=>?_⟩
  have oh:∀b o,b≠env.locals→s₁.heap.get? b=some o→h₃.get? b=some o:=λb o hb g=>mW.extBut b o (λz=>sN (z▸g) dC) (hs₂.extBut b o hb (keep b o g))
  have FW:h₃.Ns env.locals (λz=>if z=t then some (.ref D) else m z):=hn₂.sameBut mW Ot
  have UQ:h₃.DictOf (PySem.strKind X.prog X.w) D kvs:=UO.at λo e=>mW.extBut _ _ hDC (hs₂.extBut _ _ (Ne.symm RQ) e)
  have pre:∃t,ao++[(D,D)]=ao++t∧∀p∈t,s₁.heap.get? p.1=none∧s₁.heap.get? p.2=none:=⟨[(D,D)],rfl,λp hp=>by simp at hp;subst hp;exact⟨dD,dD⟩⟩
  have EL:ef env.locals ao (ao++[(D,D)]) s₁.heap h₃:=⟨pre,λb o z n g=>oh b o z g,λb o n g=>⟨o,oh b o (λz=>F₁.own (z▸n)) g⟩,λo g=>mU FW⟩
  have cu:St X ao σ1 {s₁ with heap:=h₃,toks:=tk+1}:=S₁.rO (s':={s₁ with heap:=h₃,toks:=tk+1}) F₁.own F₁.ie F₁.low oh
  have z3:D≠sysModules:=by
   refine bK S₁.main λo e=>?_
   refine ay (by injection hacc:D=s₁.heap.objs.size+1) ?_
   exact Nat.ne_of_gt (Nat.lt_succ_of_lt (Nat.lt_trans (by decide:sysModules<mainGlobals) (dh (S₁.base _ _ e))))
  refine jo (iC UQ) λds md gD=>?_
  have ED:gG ao (ao++[(D,D)]) h₃ h₃:=⟨⟨[(D,D)],rfl,λp hp o ho'=>by
   simp at hp;subst hp
   rcases ho' with q|q<;>(dsimp only at q;refine sE gD q ?_;rfl)⟩,λb o _ g _=>g⟩
  rw[List.filter_eq_self.mpr (λ_ _=>rfl)] at hF
  have Xl:jb (rK X) (VR X (ao++[(D,D)]) h₃) (putAll [] (names.zip vals)) kvs:=AU B hF _ (by rw[List.length_zip];grind) λk z v key y hz hv hk hy=>by
   refine dY λG hG=>?_
   refine KW (B0 k v (hP k v hv)) λnm t1 v' hnm e1 e2 e3 e4=>?_
   obtain⟨Xm,t2,Ou,f1,rfl⟩:=hk
   obtain⟨Xn,t3,v3,Ov,g1,g2,g3⟩:=hy
   rw[e1] at f1 g1
   simp only[Value.str.injEq] at f1 g1
   have i2:=B.inj nm Xm hnm Ou f1.1
   have i3:=B.inj nm Xn hnm Ov g1.1
   clear g1 Ov f1 Ou e1 hv B0 push hil hvs ga na nn aU xv mV mh n9 k4 k3 k2 k1 HA AR c9 c8 c7 c6 c5 c3 c2 p2 p1 cs j q4 q3 q2 q1 dn q0 HH p0 h2 aV ho hd hf h1 he S F hR σ hi
   subst i2 i3
   refine hG ?_
   obtain rfl:=sU e4 g2
   have hz':z=(.str nm,v'):=by
    rw[List.getElem?_zip_eq_some] at hz
    rw[e2,e3] at hz
    refine dF hz λa b=>?_
    simp only[Option.some.injEq] at a b
    exact Prod.ext a.symm b.symm
   refine ay hz' ?_
   exact⟨⟨nm,hnm,rfl,rfl⟩,VR.bI (EL.v F₁.ie) _ _ g3⟩
  have hu:VR X (ao++[(D,D)]) h₃ (.loc σ1.length) (.ref D):=by
   exact⟨(D,D),by rw[←S₁.len,List.getElem?_append_right (bS _)];simp,rfl⟩
  exact(hQ.oq e2) _ _ {s₁ with heap:=h₃,toks:=tk+1} (E₁.l.trans EL) (cu.fill (s':={s₁ with heap:=h₃,toks:=tk+1}) (p:=(D,D)) (o:= .dict 2 (putAll [] (names.zip vals))) (S₁.kX dD) (S₁.kX dD) (S₁.low dD) (S₁.low dD) z3 (λb _ _=>rfl) ED ⟨rfl,kvs,UQ,Xl⟩) (F₁.stored B hm hv0 c1 FW oh pre hu) rfl
 ·intro hw
  refine fq hw (λcenv s₄ hc=>codeAny_mono hc λr s' hr=>hr ?_) λ_ _ e=>e
  rw[Heap.size_push]
theorem tU{A:Around}{env:PySem.Env}{ls:List (Option Nat)}{ρ:Env}{μ:Mu}{s:Shared}(F:gP X env ls ρ μ s.heap){x:Nat}{v:V}{t:Str}{p:Pos}(hx:qV ⟨X.NM,xs⟩ env.scope ls x t=true)(hv:ρ[x]? =some (some v))
  {Q:Value→Shared→Prop}{E:Value→Shared→Prop}(h:∀y,VR X μ s.heap v y→Q y s):wpAny (model X.prog X.w) A (eval (.Name t p) env) Q E s:=by
 simp only[qV,eZ,Bool.and_eq_true,beq_iff_eq,bne_iff_ne] at hx
 obtain⟨⟨h1,h2⟩,h3⟩:=hx
 refine K7 h1 λa ha h1=>?_
 have ht:X.NM a=t:=cz h1
 clear h1
 subst ht
 refine aA F.ns λm hn hm=>?_
 have h2':env.kindOf (X.NM a)=some .local:=h2
 rcases hm x a v ha hv with⟨_,y,z,w⟩|⟨r,_⟩
 ·exact wpAny_Name (wpAny_loadName_local F.kind h2' hn z (h y w)) (iQ h3)
 ·rcases r with r|⟨r,_⟩<;>rw[h2'] at r<;>cases r
theorem jb.at{K:Type}{rel:V→K→Prop}{vr:V→Value→Prop}:∀{es:List (V × V)}{ds:List (K × Value)}{i:Nat}{k v:V},jb rel vr es ds→es[i]? =some (k,v)→∃j x,ds[i]? =some (j,x)∧rel k j∧vr v x
 | [],ds,i,k,v,g,e=>by simp at e
 |(a,u)::r,ds,i,k,v,g,e=>by
  refine jb.eC g λj x q h1 h2 h3=>?_
  cases i with
  |zero=>simp at e;obtain⟨rfl,rfl⟩:=e;exact⟨j,x,rfl,h1,h2⟩
  |succ i=>simpa using jb.at h3 (by simpa using e)
theorem tV{K:Type} [DecidableEq K]:∀{kvs:List (K × Value)}{i:Nat}{j:K}{x:Value},(kvs.map (·.1)).Nodup→kvs[i]? =some (j,x)→valueAt kvs j=some x
 | [],i,j,x,_,e=>by simp at e
 |(a,u)::r,i,j,x,h,e=>by
  cases i with
  |zero=>simp at e;obtain⟨rfl,rfl⟩:=e;simp[valueAt]
  |succ i=>
   have bT:¬a=j:=λz=>(fG h).1 (z▸(List.mem_map.mpr ⟨_,iy (by simpa using e),rfl⟩:j∈r.map (·.1)))
   have:=tV (fG h).2 (i:=i) (j:=j) (x:=x) (by simpa using e)
   simpa[valueAt,bT] using this
inductive UR(X:Ctx)(env:PySem.Env)(ls:List (Option Nat))(ρ:Env)(σ:aa)(μ:Mu)(s:Shared)(pg:Addr × Addr)(kvs:List (Int × Value))(ep:Nat)(es et:List (V × V))(lt lb c:Nat)(fs:List (Nat × V))(b g x:Nat)(k':Nat)(s':Shared):Prop
 |mk (i:Nat) (qh:Env) (rA:aa) (ki:Nat) (hk:k'=es.length+1-i) (hi:i≤es.length) (Fi:gP X env ls qh μ s'.heap) (Si:St X μ rA s') (Ki:s'.heap.IsKeyIter s.heap.objs.size pg.1 i kvs.length ep) (Di:s'.heap.DictAt (PySem.intKind X.prog X.w) pg.1 kvs ep) (EI:k7 env.locals s.heap.objs.size μ μ s.heap s'.heap)
  (hki:ki≤1) (h1:rA[lt]? =some (.dict ki (putAll et (es.take i)))) (h2:∀o,rA.set lt o=σ.set lt o) (h3:rA[lb]? =some (.inst c fs)) (h4:0<i→rA=σ.set lt (.dict 1 (putAll et (es.take i)))) (r1:qh[b]? =ρ[b]?) (r2:qh[g]? =ρ[g]?) (r3:∀u,qh.set x u=ρ.set x u)
  (r4:∀j,i=j+1→∃k v,es[j]? =some (k,v)∧qh=ρ.set x (some k)):UR X env ls ρ σ μ s pg kvs ep es et lt lb c fs b g x k' s'
theorem vV{ρ:Env}{i l:Nat}(h:Ey ρ i=some l):ρ[i]? =some (some (.loc l)):=KZ h λv e h=>e.trans (qW h λx e1 e2=>by rw[e1,aX e2])
theorem tW{σ:aa}{l k:Nat}{es:List (V × V)}(h:dictAt σ l=some (k,es)):σ[l]? =some (.dict k es):=oB h λj ds e h=>by cases h;exact e
theorem AW{σ:aa}{l c:Nat}{fs:List (Nat × V)}(h:sO σ l=some (c,fs)):σ[l]? =some (.inst c fs):=z8 h λj ds e h=>by cases h;exact e
theorem Dn{ρ:Env}{x b n g:Nat}{σ:aa}{r:Fl × Env × aa}{G:Prop}(h:JY ρ x b n g σ=some r)(k:∀lg lb es c fs lt kd et kl vl,ρ[g]? =some (some (.loc lg))→ρ[b]? =some (some (.loc lb))→σ[lg]? =some (.dict 1 es)→σ[lb]? =some (.inst c fs)→o7 fs n=some (.loc lt)→σ[lt]? =some (.dict kd et)→
  kd≤1→lt≠lg→es.length+et.length≤1000→x<ρ.length→es.getLast?=some (kl,vl)→(.next,ρ.set x (some kl),σ.set lt (.dict 1 (putAll et es)))=r→G):G:=by
 refine aA (bind_some h) λlg h1 h=>?_
 refine aA (bind_some h) λlb h2 h=>?_
 refine bw h λk1 es h3 h=>?_
 refine bw h λc fs h4 h=>?_
 refine aA (bind_some h) λw h5 h=>?_
 refine aA (bind_some h) λlt h6 h=>?_
 refine bw h λkd et h7 h=>?_
 refine fJ h λq h=>?_
 refine Ad h λkl vl h8 e=>?_
 refine qW h6 λy e1 e2=>?_
 clear h6
 cases e2
 subst e1
 refine CG q λq0 q1 q2 q3 q4=>?_
 clear q h
 subst q0
 exact k _ _ _ _ _ _ _ _ _ _ (vV h1) (vV h2) (tW h3) (AW h4) h5 (tW h7) q1 q2 q3 q4 h8 e
theorem Ow{R:Result→Shared→Prop}{cR:PySem.Expr}{it:Value}{st:Stmt}{env:PySem.Env}{prog w A}(I:Nat→Shared→Prop)
  (turn:∀n s,I n s→∀(T:Option Value→Shared→Prop)(E:Value→Shared→Prop)(B:(Flow→Shared→Prop)→Shared→Prop),(∀N s,wpAny (model prog w) A (execs [st] env) N E s→B N s)→(∀s₁,R (.ok .next) s₁→T none s₁)→
   (∀v s₁,(∀N:Flow→Shared→Prop,(∀m s₃,m<n→I m s₃→N .next s₃)→wpAny (model prog w) A (letOwnedTupleGo cR it v) (λ_ s₁'=>wpAny (model prog w) A (assign cR env v) (λ_ s₂=>B N s₂) E s₁') E s₁)→T (some v) s₁)→wpAny (model prog w) A (pyNext it) T E s)
  (n:Nat)(s:Shared)(h:I n s):codeAny (model prog w) A (.forLoop cR it [st] [] env) R s:=
 codeAny_forLoop_any I (λn s hi=>turn n s hi _ _ _ (λ_ _ h=>h) (λ_ h=>wpAny_execs_nil h) λ_ _ k=>k _ λm _ hm h=>⟨m,hm,h⟩) n h
theorem FY(B:bE X mg mb)(x b k g:Nat):SS X n xs (.sq x b k g):=by
 intro A env ls ρ σ fl ρ' τ μ s st hR hc F S he Q E hQ
 refine Dn he λlg lb es c fs lt kd et kl vl hg hb RS oJ US lU hkd bT aV UT Kc e4=>?_
 refine FF hc λt p0 g1 q1 b1 q2 a q3 t2 q4 q5 g2 q6 t3 q7 q8 q9 QA c1 c2 c3 c4 c5 c6 c7 c8 c9 AR HA=>?_
 subst c2 c3 c4 c8
 have mV:env.kindOf t3=some .local:=by
  simp only[eZ,Bool.and_eq_true,beq_iff_eq] at c1
  exact c1.2
 have RT:qV ⟨X.NM,xs⟩ env.scope ls x t3=true:=by simp only[qV,Bool.and_eq_true,bne_iff_ne,ne_eq];exact⟨c1,c5⟩
 refine wpAny_For (tU F c7 hg λy hy=>?_) (λ_=>rfl)
 simp only[VR] at hy
 refine dY λG hG=>?_
 obtain⟨pg,LS,rfl⟩:=hy
 obtain⟨Xo,kvs,Dg,Pg⟩:OR X μ s.heap pg (.dict 1 es):=S.obj lg _ pg RS LS
 obtain⟨ep,Da⟩:=Dg.dictAt
 refine hG ?_
 refine wpAny_pyIter_dict (iW B S LS) Da ?_
 have Xp:=Pg.length
 have dead:s.heap.get? s.heap.objs.size=none:=kC (bS _)
 have Io:=S.fresh
 have low:=S.low dead
 have push:∀b o,s.heap.get? b=some o→(s.heap.push {cls:= .type "dict_keyiterator",data:= .fields #[.ref pg.1,.int 0 0,.int kvs.length 0,.int ep 0]}).get? b=some o:=λb o g=>gX _ g
 have hIL:s.heap.objs.size≠env.locals:=by obtain⟨o,g⟩:=F.at;exact Nat.ne_of_gt (dh g)
 have FZ:∀i,i<es.length→∃(j:Int)(v:V)(x:Value),es[i]? =some (.int j,v)∧kvs[i]? =some (j,x)∧VR X μ s.heap v x:=λi hi=>by
  refine jo (⟨es[i].1,es[i].2,iw hi⟩:∃a b,es[i]? =some (a,b)) λXq v hkv=>?_
  refine fj (Pg.at hkv) λj x h1 h2 h3=>?_
  have:Xq=.int j:=h2
  subst this
  exact⟨j,v,x,hkv,h1,h3⟩
 have take1:∀i(k v:V),es[i]? =some (k,v)→putAll et (es.take (i+1))=cA (putAll et (es.take i)) k v:=λi k v h=>by
  have hi:=(eY h).1
  have h2:=(eY h).2
  rw[List.take_succ_eq_append_getElem hi,h2,putAll_snoc]
 have Ke:lb≠lt:=λz=>by rw[z,lU] at oJ;cases oJ
 have hpos:0<es.length:=by
  clear Pg aV RS he
  cases es with
  |nil=>cases Kc
  |cons a r=>exact Nat.succ_pos _
 refine Ow (UR X env ls ρ σ μ s pg kvs ep es et lt lb c fs b g x) ?_ (es.length+1) _
  ⟨0,ρ,σ,kd,rfl,Nat.zero_le _,F.mono (cU.more push),S.push _ _,⟨_,dz _ rfl,rfl,rfl⟩,Da.keep push,((cU.more push).l.i _),hkd,lU,λ_=>rfl,oJ,λh=>absurd h (Nat.lt_irrefl 0),rfl,rfl,λ_=>rfl,λj h=>by cases h⟩
 rintro k' s' ⟨i,qh,rA,ki,rfl,hi,Fi,Si,Ki,Di,EI,hki,Ip,LU,LV,RU,LW,LX,LY,RV⟩ T EE BB hB hT hV
 refine gC (id Ki) λoI gI cI dI=>?_
 have LN:fc oI=false:=qD cI (by decide) dI
 have nv:∀o,s'.heap.get? s.heap.objs.size=some o→fc o=false:=λo g=>by rw[gI] at g;cases g;exact LN
 have UU:pg.1≠s.heap.objs.size:=λz=>Io ⟨pg,iy LS,.inl z.symm⟩
 rcases Nat.lt_or_ge i es.length with Iq|hge
 ·refine KV (FZ i Iq) λj v xv h1 h2 h3=>?_
  refine wpAny_pyNext_dict_item Ki Di h2 λkey h' hkey QC jF=>?_
  refine hV _ _ λN hN=>?_
  obtain⟨tk,rfl⟩:=Value.isInt_shape hkey
  have hk1:∀b o,b≠s.heap.objs.size→s'.heap.get? b=some o→h'.get? b=some o:=λb o z g=>(jF.2 b z).trans g
  have S1:St X μ rA {s' with heap:=h'}:=Si.rO (s':={s' with heap:=h'}) Io nv low hk1
  have F1:gP X env ls qh μ h':=Fi.rO gI dI LN hk1
  have D1:h'.DictAt (PySem.intKind X.prog X.w) pg.1 kvs ep:=Di.extBut jF.extBut UU
  refine aT ?_
  refine aA F1.ns λm hm hv0=>?_
  refine wpAny_assign_Name (wpAny_storeName_local mV hm (λh₂ hn₂ hs₂=>?_) (by rw[F.kind];rfl))
  have hk2:∀b o,b≠env.locals→h'.get? b=some o→h₂.get? b=some o:=λb o z g=>(hs₂.2 b z).trans g
  have S2:St X μ rA {s' with heap:=h₂,toks:=s'.toks+1}:=S1.rO (s':={s' with heap:=h₂,toks:=s'.toks+1}) F1.own F1.ie F1.low hk2
  have F2:gP X env ls (qh.set x (some (.int j))) μ h₂:=F1.stored B hm hv0 c1 hn₂ hk2 uJ (xo _ _)
  have Xr:pg.1≠env.locals:=λz=>F1.own ⟨pg,iy LS,.inl z.symm⟩
  have D2:h₂.DictAt (PySem.intKind X.prog X.w) pg.1 kvs ep:=D1.extBut hs₂.extBut Xr
  have K2:h₂.IsKeyIter s.heap.objs.size pg.1 (i+1) kvs.length ep:=QC.at λo e=>hs₂.extBut _ o hIL e
  have Xs:gG μ μ s.heap h₂:=by
   refine aA (id QC) λUL LO _=>?_
   exact⟨uJ,λb o no g vv=>by
    have z1:b≠env.locals:=λz=>by subst z;cases(F.ie o g).symm.trans vv
    have z2:b≠s.heap.objs.size:=λz=>sN (z▸g) dead
    exact hk2 b o z1 (hk1 b o z2 (EI.keep b o z1 z2 no g))⟩
  have RW:(qh.set x (some (.int j)))[b]? =some (some (.loc lb)):=by rw[List.getElem?_set_ne AR,LW];exact hb
  have RX:(qh.set x (some (.int j)))[g]? =some (some (.loc lg)):=by rw[List.getElem?_set_ne HA,LX];exact hg
  have hxi:x<qh.length:=by
   have:=aj List.length (LY none)
   rw[List.length_set,List.length_set] at this
   exact(iN UT (Eq.symm this))
  have Ox:(qh.set x (some (.int j)))[x]? =some (some (.int j)):=List.getElem?_set_self hxi
  have Xu:gP X env ls (qh.set x (some (.int j))) μ h₂:=F2
  refine hB _ _ (wpAny_execs_cons (wpAny_Assign_Subscript ?_ rfl))
  refine Subscript_ (tU (s:={s' with heap:=h₂,toks:=s'.toks+1}) F2 c7 RX λy hy=>tU (s:={s' with heap:=h₂,toks:=s'.toks+1}) F2 RT Ox λz hz=>?_)
  simp only[VR] at hy hz
  obtain⟨Zr,RY,rfl⟩:=hy
  obtain rfl:=sU LS RY
  obtain⟨Xv,rfl⟩:=hz
  obtain⟨ops,hsub⟩:=gw (.Name t3 q7) (.ref pg.1) (.int j Xv)
  refine tail_any D2.dictOf.typeIs slot_dict_getitem.lookup (wpAny_getItem_of (knd:=PySem.intKind X.prog X.w) (k:=j) (‹_›) D2.dictOf.mapOf (tV Da.nodup h2) ?_) hsub
  have hxv:VR X μ h₂ v xv:=VR.bI Xs _ _ h3
  show wpAny _ _ (do let o' ←attributeBase (.Name b1 q2) (X.NM k) env (eval (.Name b1 q2) env);standAt q3.atName;let r ←holding [o'] (getAttr o' (X.NM k) true);letTemporaryGo (.Name b1 q2) o' r;pure r) _ _ _
  refine ay (oH rfl) (?_)
  refine au (tU (s:={s' with heap:=h₂,toks:=s'.toks+1+1}) F2 c6 RW λy hy=>?_)
  refine au (wpAny_standAt (au (cF ?_)))
  refine BL (s:={s' with heap:=h₂,toks:=s'.toks+1+1}) B (S2.tok _) hy LV c9 US λyt UW=>au (wpAny_letTemporaryGo (aT ?_))
  refine tU (s:={s' with heap:=h₂,toks:=s'.toks+1+1+1}) F2 RT Ox λz hz=>?_
  simp only[VR] at UW hz
  refine aA UW λpt QD cW=>?_
  refine ay cW ?_
  obtain⟨Zs,rfl⟩:=hz
  obtain⟨Zt,Dt⟩:OR X μ h₂ pt (.dict ki (putAll et (es.take i))):=S2.obj lt _ pt Ip QD
  refine aA (Dt.Ld (by lia)) λZu Dt Pt=>?_
  have Oz:=Pt.length
  have hlen2:=oi (es.take i) et
  have QE:(es.take i).length≤es.length:=by rw[List.length_take];exact Nat.min_le_right _ _
  have hsep:=S.sep lt lg pt pg QD LS bT
  refine wpAny_setItem_pairs (s:={s' with heap:=h₂,toks:=s'.toks+1+1+1}) (knd:=PySem.intKind X.prog X.w) (k:=j) (‹_›) Dt (λh₃ hd₃ mW=>?_) (by rw[sizeLine_eq];exact cP [_,_,_,_,_] 1 vA (.num 16777216) [.l 1 (.add vB vC) (.num 1000),.f 1 vD vA,.l 1 vD (.add vC vE),.l 1 vE vB] aI aV Oz hlen2 QE)
  have Xw:St X μ rA {s' with heap:=h₂,toks:=s'.toks+1+1+1}:=S2.tok _
  refine dF (Xw.tP (s':={s' with heap:=h₃,toks:=s'.toks+1+1+1+1}) (k':=1) (es':=cA (putAll et (es.take i)) (.int j) v) QD Ip mW (iC hd₃) (λe=>⟨_,hd₃,jb.put (rel:=sP) (k:= .int j) (j:=j) rfl (jD j) (VR.bI e _ _ hxv) (Pt.mono λv x=>VR.bI e v x) (g7 Dt)⟩)) λcu E₃=>?_
  have Xx:s.heap.objs.size≠pt.1:=λz=>Io ⟨pt,iy QD,.inl z⟩
  refine wpAny_execs_nil (hN (es.length+1-(i+1)) _ (by exact ltN [_,_,_,_] 1 vA vB [.e 1 (.add vA (.add vC (.num 1))) (.add vD (.num 1)),.l 1 (.add vD (.num 1)) (.add vB vC)] aI (Nat.sub_add_cancel (cP [_,_] 1 (.add vA (.num 1)) (.add vB (.num 1)) [.s 1 vA vB] aI Iq)) (Nat.le_add_of_sub_le (bS _))) ⟨i+1,qh.set x (some (.int j)),rA.set lt (.dict 1 (cA (putAll et (es.take i)) (.int j) v)),1,rfl,Iq,Xu.mono E₃,cu,K2.at λo e=>mW.extBut _ o Xx e,D2.extBut mW.extBut hsep.1.symm,?_,bS _,?_,λo=>?_,?_,λ_=>?_,?_,?_,λu=>?_,λj' hj'=>?_⟩)
  ·refine(EI.trans (k7.here hk1 ?_)).trans (((⟨uJ,λb o z n g=>hk2 b o z g,λb o n g=>⟨o,hk2 b o (λz=>F1.own (z▸n)) g⟩,λo g=>mU hn₂⟩:ef env.locals μ μ h' h₂).trans E₃.l).i _)
   refine aA (id QC) λUL LO _=>?_
   exact⟨_,LO⟩
  ·exact ay (take1 i _ _ h1) (ay (List.getElem?_set_self (eY Ip).1) (rfl))
  ·rw[List.set_set];exact LU o
  ·rw[List.getElem?_set_ne (Ne.symm Ke)];exact LV
  ·rw[take1 i _ _ h1];exact LU _
  ·exact ay (List.getElem?_set_ne AR) (ay LW (rfl))
  ·exact ay (List.getElem?_set_ne HA) (ay LX (rfl))
  ·rw[List.set_set];exact LY u
  ·have:j'=i:=by exact dH (cP [_,_] 1 vA vB [.f 1 (.add vB (.num 1)) (.add vA (.num 1))] aI hj') (cP [_,_] 1 vA vB [.e 1 (.add vA (.num 1)) (.add vB (.num 1))] aI hj')
   clear hj' cu QE hlen2 Oz Pt K2 F2 S2 hk2 hs₂ hn₂ hv0 hm m D1 jF QC hkey Iq UU cI LX LW LV LU Ip hki Ke take1 hi FZ hIL push Da Pg Dg Xo LS hy y RT mV HA AR c9 c7 c6 c5 c1 QA q1 e4 UT aV bT hkd lU US oJ RS hb hg kd hG G he S hc st B
   refine ay this ?_
   exact⟨_,_,h1,LY _⟩
 ·have RJ:i=es.length:=by exact dH (hi) (hge)
  subst RJ
  refine wpAny_pyNext_dict_end hR.1 Ki Di (by rw[Xp];simp) λh' he'=>hT _ ?_
  have hk1:∀b o,b≠s.heap.objs.size→s'.heap.get? b=some o→h'.get? b=some o:=λb o z g=>he' b o z g
  have S1:St X μ rA {s' with heap:=h'}:=Si.rO (s':={s' with heap:=h'}) Io nv low hk1
  have F1:gP X env ls qh μ h':=Fi.rO gI dI LN hk1
  obtain⟨j,hj⟩:∃j,es.length=j+1:=⟨es.length-1,by exact dH ((Nat.le_add_of_sub_le (bS _))) ((cG (Nat.sub_add_cancel (cP [_] 1 (.num 1) vA [.s 1 (.num 0) vA] aI hpos))))⟩
  refine oA (RV j hj) λk1 v1 h1 h2=>?_
  have AX:es.getLast?=some (k1,v1):=by
   refine ay List.getLast?_eq_getElem? (ay hj (?_))
   exact h1
  replace AX:=Eq.trans (Eq.symm Kc) AX
  cases AX
  have h3:=RU hpos
  rw[List.take_length] at h3
  subst h2 h3
  exact(hQ.oq e4) μ _ {s' with heap:=h'} (((EI.Ka hk1)).close (λ_ _ g=>g) dead F.at) S1 F1 rfl
mutual
theorem LZ(B:bE X mg mb)(Kp:Keeps X)(hC:SC X n)(cC:∀i∈xs,i<aO.length):∀m,SS X n xs m
 | .assign x e=>Df B (aG B Kp hC cC e)
 | .jQ x d k it=>AQ B x d k (aG B Kp hC cC it)
 | .jR x d k it=>AV B x d k (aG B Kp hC cC it)
 | .sq x b k g=>FY B x b k g
 | .setattr o k e=>AJ B k (aG B Kp hC cC o) (aG B Kp hC cC e)
 | .aS o k e=>AK B (aG B Kp hC cC o) (aG B Kp hC cC k) (aG B Kp hC cC e)
 | .unpack ys e=>Dh B ys (aG B Kp hC cC e)
 | .aug x op e=>LL B (aG B Kp hC cC e)
 | .expr e=>Ii (aG B Kp hC cC e)
 | .ret e=>LH (aG B Kp hC cC e)
 | .ite t a b=>LI (mT B Kp hC cC t) (iF B Kp hC cC a) (iF B Kp hC cC b)
 | .while t b=>FQ (mT B Kp hC cC t) (iF B Kp hC cC b)
 | .for x it b=>LQ B x (aG B Kp hC cC it) (iF B Kp hC cC b)
 | .wz ys it b=>Im B ys (aG B Kp hC cC it) (iF B Kp hC cC b)
 | .brk=>LG
 | .cont=>Ih
 | .jm o k=>AL B (aG B Kp hC cC o) (aG B Kp hC cC k)
 | .never=>FJ
theorem iF(B:bE X mg mb)(Kp:Keeps X)(hC:SC X n)(cC:∀i∈xs,i<aO.length):∀ms,SB X n xs ms
 | []=>LJ
 |m::r=>Ik (LZ B Kp hC cC m) (iF B Kp hC cC r)
end
end
theorem AY{α β:Type}{f:α→β→Sem (ForInStep β)}(g:β→α→β)(h:∀a b,f a b=pure (.yield (g b a)))(l:List α):∀(b:β),forIn l b f=pure (l.foldl g b):=by
 induction l with
 |nil=>exact λb=>by rw[List.forIn_nil];rfl
 |cons a r ih=>exact λb=>by rw[List.forIn_cons,h a b,pure_bind];exact ih (g b a)
section
variable {K:Type} [BEq K] [LawfulBEq K] {α:Type} {a x:K} {b:α} {r:List (K × α)}
theorem pU{n:List K}:∀{v:List α}{x:K},n.length=v.length→x∈n→((n.zip v).lookup x).isSome=true:=by
 induction n with
 |nil=>exact λ{v x} _ h=>absurd h iO
 |cons a r ih=>
  intro v x e h
  cases v with
  |nil=>exact nomatch e
  |cons b q=>
   refine(?_:(((a,b)::r.zip q).lookup x).isSome=true)
   cases hx:x==a with
   |true=>exact ay (Hz hx) rfl
   |false=>exact ay (D9 hx) (ih (Nat.succ.inj e) ((eH h).resolve_left λz=>Bool.false_ne_true (hx.symm.trans (beq_iff_eq.mpr z))))
theorem Dp{l:List (K × α)}{x:K}:(∀y∈l,y.1≠x)→l.lookup x=none:=by
 induction l with
 |nil=>exact λ_=>rfl
 |cons p r ih=>exact λh=>(D9 (a:=p.1) (b:=p.2) (iQ λe=>h p (.head _) e.symm)).trans (ih λy hy=>h y (.tail _ hy))
theorem tX{l q:List (K × α)}{x:K}:l.lookup x=none→(l++q).lookup x=q.lookup x:=by
 induction l with
 |nil=>exact λ_=>rfl
 |cons p r ih=>
  intro h
  cases hx:x==p.1 with
  |true=>exact fY (h.symm.trans (Hz (a:=p.1) (b:=p.2) hx))
  |false=>exact(D9 (a:=p.1) (b:=p.2) hx).trans (ih ((D9 (a:=p.1) (b:=p.2) hx).symm.trans h))
noncomputable def putK(s:List (K × α))(x:K × α):List (K × α):=if(s.lookup x.1).isNone=true then s++[(x.1,x.2)] else s
theorem OA{l s:List (K × α)}:(∀x∈l,(s.lookup x.1).isSome=true)→l.foldl putK s=s:=by
 induction l with
 |nil=>exact λ_=>rfl
 |cons p r ih=>
  intro h
  have e:putK s p=s:=aB λz=>by
   have h1:=h p (.head _)
   rw[Option.isNone_iff_eq_none.mp z] at h1;exact nB h1
  exact(aj (r.foldl putK) e).trans (ih λx hx=>h x (.tail _ hx))
theorem OB{l:List (K × α)}:∀{s:List (K × α)},(l.map (·.1)).Nodup→(∀x∈l,s.lookup x.1=none)→l.foldl putK s=s++l:=by
 induction l with
 |nil=>exact λ{s} _ _=>(List.append_nil s).symm
 |cons p r ih=>
  intro s nd h
  have e:putK s p=s++[p]:=aC (aj Option.isNone (h p (.head _)))
  refine(aj (r.foldl putK) e).trans ((ih (fG nd).2 λx hx=>?_).trans (List.append_assoc ..))
  exact(tX (h x (.tail _ hx))).trans (D9 (a:=p.1) (b:=p.2) (iQ λe=>(fG nd).1 (List.mem_map.mpr ⟨x,hx,e⟩)))
theorem L0{n:List K}:∀(v:List α)(p:List (K × α)),(∀x∈n,p.lookup x=none)→n.Nodup→n.length=v.length→n.filterMap (λx=>((p++n.zip v).lookup x).map (x,·))=n.zip v:=by
 induction n with
 |nil=>exact λ_ _ _ _ _=>rfl
 |cons a r ih=>
  intro v p h nd e
  cases v with
  |nil=>exact nomatch e
  |cons b q=>
   have h1:(p++(a,b)::r.zip q).lookup a=some b:=(tX (h a (.head _))).trans (Hz (beq_self_eq_true a))
   have h2:=ih q (p++[(a,b)]) (λx hx=>(tX (h x (.tail _ hx))).trans (D9 (iQ λe=>(fG nd).1 (e▸hx)))) (fG nd).2 (Nat.succ.inj e)
   rw[List.append_assoc,List.singleton_append] at h2
   exact(List.filterMap_cons_some (f:=λx=>((p++(a,b)::r.zip q).lookup x).map (x,·)) (aj (Option.map (a,·)) h1)).trans (aj ((a,b):: ·) h2)
end
theorem B3{α β:Type}{a b:List α}{c:List β}(h:a.length=c.length):(a++b).zip c=a.zip c:=by
 have:=List.zip_append (r₁:=b) (r₂:=([]:List β)) h
 rwa[List.append_nil,List.zip_nil_right,List.append_nil] at this
theorem Xy{n v d:Nat}(h1:v≤n)(h2:n≤v+d):n=v+(d-(d-(n-v))):=by
 exact ay (Nat.sub_sub_self (Nat.sub_le_of_le_add (Nat.add_comm v d▸h2))) (ay (Nat.add_sub_cancel' h1) (rfl))
theorem UX{a m d:Nat}(h:d≤a+m)(h2:a+m≤a+d):∃e,d=m+e∧a-(a+m-d)=e:=by
 refine bK (Nat.le.dest (Nat.le_of_add_le_add_left h2)) λe he=>?_
 subst he
 refine⟨e,rfl,?_⟩
 rw[Nat.add_comm a m,Nat.add_sub_add_left,Nat.sub_sub_self (Nat.le_of_add_le_add_left (Nat.add_comm a m▸h))]
theorem Xz{a m d:Nat}(h:d≤a+m)(h2:a+m≤a+d):d-(a+m-a)=a-(a+m-d):=by
 refine aA (UX h h2) λe e1 e2=>?_
 rw[e2,e1,Nat.add_sub_cancel_left,Nat.add_sub_cancel_left]
theorem XA{a m d:Nat}:a-(a+m-d)≤d:=Nat.sub_le_of_le_add (cV (Nat.le_add_right a m) (Nat.add_comm _ d▸Nat.le_add_of_sub_le (bS _)))
theorem XC{a m d:Nat}(h:d≤a+m)(h2:a+m≤a+d):m=d-(a-(a+m-d)):=by
 refine aA (UX h h2) λe e1 e2=>?_
 rw[e2,e1,Nat.add_sub_cancel]
theorem XD{n v d:Nat}(h2:n≤v+d)(h:d≤n):n-(d-(d-n))≤v:=by
 rw[Nat.sub_eq_zero_of_le h];exact Nat.sub_le_of_le_add h2
theorem XE{a m d:Nat}(h2:a+m≤a+d):a+m-d≤a:=Nat.sub_le_of_le_add h2
theorem Dq{names:List Str}{vals ds:List Value}(hle:vals.length≤names.length)(hge:names.length≤vals.length+ds.length)(hds:ds.length≤names.length):
  ((names.take (names.length-(ds.drop (ds.length-names.length)).length)).filter λn=>((names.zip vals).lookup n).isNone)=[]:=by
 rw[List.filter_eq_nil_iff]
 intro x hx
 have e0:names.length-(ds.drop (ds.length-names.length)).length≤vals.length:=by rw[List.length_drop (l:=ds)];exact XD hge hds
 have h1:((names.take vals.length).zip vals).lookup x=(names.zip vals).lookup x:=aj (List.lookup x) (by rw[←List.take_append_drop vals.length names,List.take_append_of_le_length (by rw[List.length_take];lia),List.take_take,Nat.min_self];exact(B3 (by rw[List.length_take];lia)).symm)
 have h2:=pU (n:=names.take vals.length) (v:=vals) (x:=x) (by rw[List.length_take];lia) (List.take_subset_take_left names e0 hx)
 refine uE h1 (?_)
 cases q:((names.take vals.length).zip vals).lookup x with
 |none=>rw[q] at h2;cases h2
 |some _=>exact Bool.false_ne_true
theorem Dr{names:List Str}{vals ds:List Value}(nd:names.Nodup)(hle:vals.length≤names.length)(hge:names.length≤vals.length+ds.length)(hds:ds.length≤names.length):
  (((names.drop (names.length-(ds.drop (ds.length-names.length)).length)).zip (ds.drop (ds.length-names.length))).foldl putK (names.zip vals))=names.zip (vals++ds.drop (ds.length-(names.length-vals.length))):=by
 have e0:ds.drop (ds.length-names.length)=ds:=by rw[Nat.sub_eq_zero_of_le hds];rfl
 refine ay e0 (?_)
 refine oA (⟨names.take vals.length,names.drop vals.length,(List.take_append_drop ..).symm,by rw[List.length_take];lia⟩:∃n1 n2,names=n1++n2∧n1.length=vals.length) λn1 n2 hn n9=>?_
 subst hn
 have UY:=List.nodup_append.mp nd
 have hN:(n1++n2).length=n1.length+n2.length:=eG
 refine ay (B3 n9) (?_)
 have g1:ds.length≤n1.length+n2.length:=hN▸hds
 have g2:n1.length+n2.length≤n1.length+ds.length:=hN▸n9.symm▸hge
 have hsplit:((n1++n2).drop ((n1++n2).length-ds.length)).zip ds=(n1.drop ((n1++n2).length-ds.length)).zip (ds.take (n1.length-((n1++n2).length-ds.length)))++n2.zip (ds.drop (n1.length-((n1++n2).length-ds.length))):=by
  refine ay (List.drop_append_of_le_length (hN.symm▸XE g2)) (?_)
  have g3:n1.length-((n1++n2).length-ds.length)≤ds.length:=hN.symm▸XA
  generalize hk:(n1++n2).length-ds.length=k at g3⊢
  conv=>lhs;arg 2;rw[←List.take_append_drop (n1.length-k) ds]
  exact ay (List.zip_append (by rw[List.length_drop,List.length_take,Nat.min_eq_left g3])) (rfl)
 rw[hsplit,List.foldl_append,OA λx hx=>pU n9 (List.mem_of_mem_drop (List.of_mem_zip hx).1),OB ?_ λx hx=>Dp λy hy=>UY.2.2 y.1 (List.of_mem_zip hy).1 x.1 (List.of_mem_zip hx).1,show ds.length-((n1++n2).length-vals.length)=n1.length-((n1++n2).length-ds.length) by rw[←n9,hN];exact Xz g1 g2]
 ·exact(List.zip_append n9).symm
 ·refine ay (List.map_fst_zip (by rw[List.length_drop,hN];exact cG (XC g1 g2))) (?_)
  exact UY.2.1
theorem vW{fd:FuncData}{names:List Str}{vals:List Value}(h1:fd.params.posonlyargs=[])(h2:fd.params.kwonlyargs=[])(h3:fd.params.vararg=none)(h4:fd.params.kwarg=none)(h5:fd.params.args.map (·.arg)=names)
  (r:Option (Array Value))(ds:List Value)(hr:(r.getD #[]).toList=ds)(nd:names.Nodup)(hle:vals.length≤names.length)(hge:names.length≤vals.length+ds.length)(hds:ds.length≤names.length):
  ∃k,bindArgs fd ⟨vals,[]⟩=(seqItems? fd.defaults>>= k)∧k r=pure (names.zip (vals++ds.drop (ds.length-(names.length-vals.length)))):=by
 obtain⟨nm,qn,⟨pos,args,va,ko,kd,kw,df⟩,body,scope,globals,closure,defaults,kwdefaults,doc,pm,an,code,ct⟩:=fd
 dsimp only at h1 h2 h3 h4 h5
 subst h1 h2 h3 h4 hr
 refine⟨_,rfl,?_⟩
 generalize (r.getD #[]).toList=ds at*
 subst h5
 refine(aB (c:=(decide (vals.length>(args.map (·.arg)).length)&&(none:Option Arg).isNone)=true) λh=>Nat.not_le_of_lt (dw (bZ h).1) hle).trans ?_
 refine(aB (c:=(!((((args.map (·.arg)).take ((args.map (·.arg)).length-(ds.drop (ds.length-(args.map (·.arg)).length)).length)).filter λn=>(((args.map (·.arg)).zip vals).lookup n).isNone).isEmpty))=true) λh=>absurd h (Dq hle hge hds▸nofun)).trans ?_
 have hf:=Dr nd hle hge hds
 generalize args.map (·.arg)=names at*
 refine(aj (λm=>Bind.bind m _) (AY putK (λ⟨k,v⟩ b=>by
  show(if(b.lookup k).isNone=true then(pure (ForInStep.yield (b++[(k,v)])):Sem _) else pure (ForInStep.yield b))=pure (ForInStep.yield (if(b.lookup k).isNone=true then b++[(k,v)] else b))
  split<;>rfl) _ _)).trans ?_
 refine(aj (λm=>Bind.bind (pure m:Sem (List (Str × Value))) _) hf).trans ?_
 refine aj (pure:List (Str × Value)→Sem (List (Str × Value))) ?_
 have:=L0 (vals++ds.drop (ds.length-(names.length-vals.length))) [] (λ_ _=>rfl) nd (by rw[eG,List.length_drop];exact Xy hle hge)
 exact(aj (List.filterMap λn=>(List.lookup n (names.zip (vals++ds.drop (ds.length-(names.length-vals.length))))).map λx=>(n,x)) (List.append_nil names)).trans this
theorem zj{fd:FuncData}{names:List Str}{vals:List Value}{s:Shared}(h1:fd.params.posonlyargs=[])(h2:fd.params.kwonlyargs=[])(h3:fd.params.vararg=none)(h4:fd.params.kwarg=none)(h5:fd.params.args.map (·.arg)=names)
  (hd:fd.defaults=.none)(nd:names.Nodup)(hle:vals.length=names.length):BindsTo s fd ⟨vals,[]⟩ (names.zip vals):=by
 refine aA (vW (vals:=vals) h1 h2 h3 h4 h5 none [] rfl nd (by exact cG hle) (by simp;exact(cG (Eq.symm hle))) (Nat.zero_le _)) λk e1 e2=>?_
 intro M A E Q hq
 refine e1▸hd▸ ?_
 refine au (aT (a:=none) ?_)
 refine ay e2 (?_)
 simp only[List.drop_nil,List.append_nil]
 exact aT hq
theorem AZ{fd:FuncData}{names:List Str}{vals ds:List Value}{s:Shared}{T:Addr}{o:Obj}{az:Array Value}{n:Nat}(h1:fd.params.posonlyargs=[])(h2:fd.params.kwonlyargs=[])(h3:fd.params.vararg=none)(h4:fd.params.kwarg=none)(h5:fd.params.args.map (·.arg)=names)
  (hd:fd.defaults=.ref T)(ho:s.heap.get? T=some o)(hs:o.data=.seq az n)(hi:az.toList=ds)(nd:names.Nodup)(hle:vals.length≤names.length)(hge:names.length≤vals.length+ds.length)(hds:ds.length≤names.length):
  BindsTo s fd ⟨vals,[]⟩ (names.zip (vals++ds.drop (ds.length-(names.length-vals.length)))):=by
 refine aA (vW h1 h2 h3 h4 h5 (some az) ds hi nd hle hge hds) λk e1 e2=>?_
 exact BindsTo.of_defaults hd ho hs e1 e2
theorem tY{l:List Nat}:wF l=true→l.Nodup:=by
 induction l with
 |nil=>exact λ_=>List.nodup_nil
 |cons a r ih=>exact λh=>List.nodup_cons.mpr ⟨λm=>Bool.false_ne_true ((nT (aL h)).symm.trans (List.contains_iff_mem.mpr m)),ih (aR h)⟩
theorem A0{l m:List Nat}(h:wG l m=true){i n:Nat}(e:m[i]? =some n)(hi:i<l.length):l[i]? =some n:=
 (aj (λz:List Nat=>z[i]?) (dw h)).symm.trans ((List.getElem?_take_of_lt hi).trans e)
theorem A3{d:Data}{fd:FuncData}(h:El d=some fd):d=.func fd:=by cases d<;>first|exact fY h|exact aj Data.func (aX h)
theorem Ds{d:Data}{l:Array Value}(h:JT d=some l):∃n,d=.seq l n:=by cases d<;>first|exact fY h|exact⟨_,aj (Data.seq · _) (aX h)⟩
theorem Du{v:Value}{a:Addr}(h:refOf v=some a):v=.ref a:=by cases v<;>first|exact fY h|exact aj Value.ref (aX h)
theorem zk{α:Type}{o:Option α}{f:α→Bool}(h:o.elim false f=true):∃x,o=some x∧f x=true:=by cases o with
 |none=>exact nB h
 |some x=>exact⟨x,rfl,h⟩
theorem zl{c:FuncBody}{b:List Stmt}(h:wI c=some b):c=.stmts b:=by cases c<;>first|exact fY h|exact aj FuncBody.stmts (aX h)
theorem oQ{x:Str}(names:List (Str × NameKind)):∀(n:Nat)(acc:List (Str × Addr)),((x,NameKind.cell)∈names∨(acc.lookup x).isSome=true)→((cellsFrom n names acc).lookup x).isSome=true:=by
 induction names with
 |nil=>exact λn acc h=>h.elim (λh=>absurd h iO) id
 |cons p r ih=>
  intro n acc h
  refine(?_:((if p.2== .cell then cellsFrom (n+1) r ((p.1,n)::acc) else cellsFrom n r acc).lookup x).isSome=true)
  by_cases hk:(p.2== .cell)=true
  ·rw[aC hk]
   refine ih _ _ (h.elim (λh=>(eH h).elim (λz=> .inr ?_) .inl) λh=> .inr ?_)
   ·rw[List.lookup_cons,←z,beq_self_eq_true];rfl
   ·rw[List.lookup_cons]
    split
    ·rfl
    ·exact h
  ·rw[aB hk]
   exact ih _ _ (h.elim (λh=>(eH h).elim (λz=>absurd (z▸rfl) hk) .inl) .inr)
section
variable {kindOf:Str→Option NameKind} {x:Str} {v:Value}
theorem Dv{l:List (Str × Value)}:∀{m:Str→Option Value},x∉l.map (·.1)→bindL kindOf l m x=m x:=by
 induction l with
 |nil=>exact λ{m} _=>rfl
 |cons p r ih=>
  intro m h
  refine(ih λz=>h (.tail _ z)).trans ?_
  split
  ·exact aB λe=>h (List.mem_cons.mpr (.inl e))
  ·rfl
theorem Dw{l:List (Str × Value)}:∀{m:Str→Option Value},x∉l.map (·.1)→bindC kindOf l m x=m x:=by
 induction l with
 |nil=>exact λ{m} _=>rfl
 |cons p r ih=>
  intro m h
  refine(ih λz=>h (.tail _ z)).trans ?_
  split
  ·rfl
  ·exact aB λe=>h (List.mem_cons.mpr (.inl e))
theorem F4(hk:kindOf x=some .local){l:List (Str × Value)}:∀{m:Str→Option Value},(l.map (·.1)).Nodup→(x,v)∈l→bindL kindOf l m x=some v:=by
 induction l with
 |nil=>exact λ{m} _ h=>absurd h iO
 |cons p r ih=>
  exact λ{m} nd h=>(eH h).elim (λz=>by
   subst z
   exact(Dv (fG nd).1).trans ((congrFun (aC hk) x).trans (aC rfl))) λz=>(ih (fG nd).2 z:)
theorem F5(hk:kindOf x=some .cell){l:List (Str × Value)}:∀{m:Str→Option Value},(l.map (·.1)).Nodup→(x,v)∈l→bindC kindOf l m x=some v:=by
 induction l with
 |nil=>exact λ{m} _ h=>absurd h iO
 |cons p r ih=>
  exact λ{m} nd h=>(eH h).elim (λz=>by
   subst z
   exact(Dw (fG nd).1).trans ((congrFun (aB λe=>NameKind.noConfusion (sU hk e)) x).trans (aC rfl))) λz=>(ih (fG nd).2 z:)
end
section
variable {X:Ctx} {n:Nat} {xs:List Nat} {mg mb:Str→Option Value}
theorem zm{y:Value}(h:BF y=true):∃b t,y=.bytes b t∧b.isEmpty=true:=by cases y<;>first|exact nB h|exact⟨_,_,rfl,h⟩
theorem zo{y:Value}{s:Str}(h:y.isStr s=true):∃t,y=.str s t:=by cases y<;>first|exact nB h|exact⟨_,aj (Value.str · _) (eX h)⟩
theorem Ir{μ:Mu}{h:Heap}{v:V}{y:Value}(e:Ek X.NM v y=true):VR X μ h v y:=by
 cases v<;>first|exact nB e|skip
 ·exact Value.isInt_shape e
 ·exact⟨dw (aR e),zo (aL e)⟩
 ·exact oA (zm (aR e)) λb t e1 e2=>⟨b,t,e1,ay (List.isEmpty_iff.mp (aL e)) (ay (Array.isEmpty_iff.mp e2) rfl)⟩
theorem F6{μ:Mu}{h:Heap}{vs:List V}:∀{ys:List Value},o6 X.NM vs ys=true→bN X μ h vs ys:=by
 induction vs with
 |nil=>exact λ{ys} e=>List.isEmpty_iff.mp e
 |cons v r ih=>exact λ{ys} e=>match ys,e with
  | [],e=>nB e
  |y::q,e=>⟨y,q,rfl,Ir (aL e),ih (aR e)⟩
theorem names_nodup(B:bE X mg mb){l:List Nat}(nd:l.Nodup)(lU:∀i∈l,i<aO.length):(l.map X.NM).Nodup:=by
 induction l with
 |nil=>exact List.nodup_nil
 |cons a r ih=>
  exact List.nodup_cons.mpr ⟨λhm=>aA (eK hm) λb hb e=>(fG nd).1 (B.inj b a (lU b (.tail _ hb)) (lU a (.head _)) e▸hb),ih (fG nd).2 λi hi=>lU i (.tail _ hi)⟩
structure Iu(X:Ctx)(a:Addr)(d:FD)(oc:Value)(od:Option Addr)(osl:Array (Option Value))(fd:FuncData)(body:List Stmt):Prop where
 ho:X.K.lookup a=some ⟨oc,od,.func fd,osl⟩
 p1:fd.params.posonlyargs=[]
 p2:fd.params.kwonlyargs=[]
 p3:fd.params.vararg=none
 p4:fd.params.kwarg=none
 p5:fd.params.args.map (·.arg)=d.args.map X.NM
 kind:fd.scope.kind=.function
 co:fd.scope.isCoroutine=false
 gen:fd.scope.isGenerator=false
 xg:fd.closure=[]
 glob:fd.globals=mainGlobals
 blt:fd.builtins=builtinsNs
 code:codeIn X.K fd.code fd.qualname=true
 hbody:fd.body=.stmts body
 xw:jM ⟨X.NM,d.locals⟩ fd.scope (d.locals.map some) d.body body=true
 pre:wG d.args d.locals=true
 nd:d.locals.Nodup
 UZ:d.args.Nodup
 lt:∀i∈d.locals,i<aO.length
 U0:∀i∈d.args,i<aO.length
 args:∀i∈d.args,fd.scope.names.lookup (X.NM i)=some .local∨fd.scope.names.lookup (X.NM i)=some .cell
 XF:wH X.NM X.K d.jT fd.defaults=true
 dle:d.jT.length≤d.args.length
theorem Iv{o:Option NameKind}(h:Uw o=true):o=some .local∨o=some .cell:=(Bool.or_eq_true_iff.mp h).imp dw dw
theorem rZ{a:Addr}{d:FD}(h:jB X.NM X.K a d=true):∃oc od osl fd body,Iu X a d oc od osl fd body:=by
 refine aA (zk h) λo ho h1=>aA (zk h1) λfd hf h2=>aA (zk (o:=wI fd.body) (lG h2)) λbody hb hc=>?_
 obtain⟨oc,od,dt,osl⟩:=o
 exact⟨oc,od,osl,fd,body,ho.trans (aj (λz=>some (Obj.mk oc od z osl)) (A3 hf)),List.isEmpty_iff.mp (z6 (aL (z6 (aL h2)))),List.isEmpty_iff.mp (lG (aL (z6 (aL h2)))),Option.isNone_iff_eq_none.mp (lG (aL (z6 h2))),Option.isNone_iff_eq_none.mp (lG (aL (KN h2))),eX (lG (aL (Np h2))),dw (lG (aL (Nn h2))),nT (lG (aL (KL h2))),nT (lG (aL (Cx h2))),List.isEmpty_iff.mp (lG (aL (z5 h2))),dw (lG (aL (lF h2))),dw (lG (aL (aL h2))),(lG (aL h2)),zl hb,hc,(CB h2),tY (Cz h2),tY (Cy h2),λi hi=>dw (iP (z7 h2) i hi),λi hi=>dw (iP (sd h2) i hi),λi hi=>Iv (iP (nO h2) i hi),(gz h2),dw (aR h2)⟩
theorem zp{K:Frag}{vs:List V}{dv:Value}{G:Prop}(h:wH X.NM K vs dv=true)(k0:vs=[]→dv=.none→G)
  (k1:∀T c dd az m sl,dv=.ref T→K.lookup T=some ⟨c,dd,.seq az m,sl⟩→o6 X.NM vs az.toList=true→G):G:=by
 cases vs with
 |nil=>exact k0 rfl (dw h)
 |cons v r=>
  refine aA (zk h) λaz e1 e2=>aA (bind_some e1) λT e3 e4=>aA (bind_some e4) λo e5 e6=>bK (Ds e6) λm e7=>?_
  obtain⟨c,dd,dt,sl⟩:=o
  exact k1 T c dd az m sl (Du e3) (e5.trans (aj (λz=>some (Obj.mk c dd z sl)) e7)) e2
theorem XG{a b c:Nat}(h1:a≤b)(h2:b≤a+c):a+(c-(c-(b-a)))=b:=
 (aj (a+ ·) (Nat.sub_sub_self (Nat.sub_le_iff_le_add'.mpr h2))).trans (Nat.add_sub_cancel' h1)
theorem Iu.binds(B:bE X mg mb){a:Addr}{d:FD}{oc od osl fd body}(O:Iu X a d oc od osl fd body){μ:Mu}{σ:aa}{s:Shared}(S:St X μ σ s){vs:List V}{vals:List Value}(hv:bN X μ s.heap vs vals){ρ:Env}(hb:kI d vs=some ρ):
  ∃ys,BindsTo s fd ⟨vals,[]⟩ ((d.args.map X.NM).zip ys)∧ys.length=d.args.length∧bN X μ s.heap (vs++d.jT.drop (d.jT.length-(d.args.length-vs.length))) ys:=by
 refine fJ hb λhc hb=>?_
 clear hb
 have hl:=hv.length
 have nd:=names_nodup B O.UZ O.U0
 have aV:(d.args.map X.NM).length=d.args.length:=List.length_map _
 have c1:vals.length≤(d.args.map X.NM).length:=aV.symm▸hl▸hc.1
 refine zp O.XF (λe0 hn=>?_) λT c dd az m sl hT hT2 hd=>?_
 ·have c2:(d.args.map X.NM).length≤vals.length:=aV.symm▸hl▸(uE (P:=λz:List V=>d.args.length≤vs.length+z.length) e0 hc.2.1)
  exact⟨vals,zj O.p1 O.p2 O.p3 O.p4 O.p5 hn nd (dH c1 c2),(dH c1 c2).trans aV,ay e0 (ay List.drop_nil (ay (List.append_nil vs) hv))⟩
 ·have hD:=F6 (μ:=μ) (h:=s.heap) hd
  have QF:=hD.length
  refine⟨_,AZ O.p1 O.p2 O.p3 O.p4 O.p5 hT (B.kx S T _ hT2) rfl rfl nd c1 (aV.symm▸hl▸QF▸hc.2.1) (aV.symm▸QF▸O.dle),?_,?_⟩
  ·refine ay eG (ay List.length_drop (ay aV (uE hl (uE QF ?_))))
   exact XG hc.1 hc.2.1
  ·refine ay aV (uE hl (uE QF ?_))
   exact hv.app (hD.drop _)
theorem F7{d:FD}{vs:List V}{ρ:Env}(h:kI d vs=some ρ):vs.length≤d.args.length∧d.args.length≤vs.length+d.jT.length∧d.args.length≤d.locals.length∧
  ∀(i:Nat) v,ρ[i]? =some (some v)→(vs++d.jT.drop (d.jT.length-(d.args.length-vs.length)))[i]? =some v:=by
 unfold kI at h
 dsimp only at h
 split at h
 ·rename_i hc
  obtain rfl:=aX h
  refine⟨hc.1,hc.2.1,hc.2.2,λi v hv=>?_⟩
  rcases Nat.lt_or_ge i (vs++d.jT.drop (d.jT.length-(d.args.length-vs.length))).length with q|q
  ·rw[List.getElem?_append_left (by rw[List.length_map];exact q),List.getElem?_map] at hv
   refine aA (map_some hv) λu hu e=>?_
   cases e;exact hu
  ·rw[List.getElem?_append_right (by rw[List.length_map];exact q)] at hv
   have:=iy hv
   rw[List.mem_replicate] at this
   cases this.2
 ·exact nomatch h
theorem enter(B:bE X mg mb){A:Around}{a:Addr}{d:FD}{oc od osl fd body}(O:Iu X a d oc od osl fd body){μ:Mu}{σ:aa}{s:Shared}(S:St X μ σ s){vs:List V}{vals:List Value}(hv:bN X μ s.heap vs vals){ρ:Env}(hb:kI d vs=some ρ)
  {Q:PySem.Env→Shared→Prop}{E:Value→Shared→Prop}
  (h:∀env(s':Shared),env.scope=fd.scope→env.locals=s.heap.objs.size→gP X env (d.locals.map some) ρ μ s'.heap→St X μ σ s'→(∀b o,s.heap.get? b=some o→s'.heap.get? b=some o)→Q env s'):
  wpAny (model X.prog X.w) A (bindArgs fd ⟨vals,[]⟩) (λbinds s₁=>wpAny (model X.prog X.w) A (newFunctionEnv fd.scope fd.globals fd.closure binds (fd.qualname++".<locals>.") (some a) fd.code none fd.builtins) Q E s₁) E s:=by
 refine gC (O.binds B S hv hb) λys XH hyl ya=>?_
 refine sJ (F7 hb) λb1 b2 b3 b4=>?_
 refine XH _ _ _ _ ?_
 refine ay O.xg ?_
 have hkeys:∀x∈(d.args.map X.NM).zip ys,∃i∈d.args,x.1=X.NM i:=λx hx=>by
  refine aA (eK (List.of_mem_zip hx).1) λi hi e=>?_
  exact⟨i,hi,e.symm⟩
 refine wpAny_newFunctionEnv_cells O.kind (λx hx=>?_) λenv he s' x=>?_
 ·refine aA (hkeys x hx) λi hi e=>?_
  refine ay e ?_
  rcases O.args i hi with q|q
  ·exact .inl q
  ·exact .inr ⟨q,oQ _ _ _ (.inl (jH q))⟩
 ·subst he
  have keep:=x.toInCall.keep
  refine jo x.toInCall.same λh' tk jF=>?_
  have E':cU μ μ s.heap s'.heap:=cU.more keep
  have S':St X μ σ s':=by subst jF;exact S.more (s':={s with heap:=h',toks:=tk}) keep
  refine h _ s' rfl rfl ?_ S' keep
  refine⟨S.fresh,S.low (kC (bS _)),O.kind,O.glob,O.blt,λy hy=>?_,λi j m hi hj=>?_,λi m hi=>?_,_,x.toInCall.ns,λi m v hi Kf=>?_⟩
  ·exact Option.isSome_iff_exists.mp (oQ _ _ _ (.inl (jH hy)))
  ·rw[List.getElem?_map] at hi hj
   refine aA (map_some hi) λp hp e1=>?_
   refine aA (map_some hj) λq hq e2=>?_
   cases e1;cases e2
   refine bK (eY hp) λl1 g1=>?_
   refine bK (eY hq) λl2 g2=>?_
   exact(List.getElem_inj O.nd).mp (g1.trans g2.symm)
  ·replace hi:=(List.getElem?_map)▸hi
   refine aA (map_some hi) λp hp e1=>?_
   obtain rfl:=aX e1
   exact O.lt _ (iy hp)
  ·rw[List.getElem?_map] at hi
   refine aA (map_some hi) λp hp e1=>?_
   refine dY λG hG=>?_
   cases e1
   refine hG ?_
   have hv2:=b4 i v Kf
   have hil:i<d.args.length:=by
    have:=(eY hv2).1
    have e:=ya.length
    exact(iN (iN this e) hyl)
   have ha:d.args[i]? =some m:=A0 O.pre hp hil
   refine aA (ya.at hv2) λy hy OC=>?_
   have hmem:(X.NM m,y)∈(d.args.map X.NM).zip ys:=by
    refine iy (i:=i) ?_
    rw[List.getElem?_zip_eq_some,List.getElem?_map,ha]
    exact⟨rfl,hy⟩
   have U1:(((d.args.map X.NM).zip ys).map (·.1)).Nodup:=by
    rw[List.map_fst_zip (by rw[List.length_map];exact(cG (Eq.symm hyl)))];exact(names_nodup B O.UZ O.U0)
   rcases O.args m (iy ha) with q|q
   ·left
    exact⟨q,y,F4 q U1 hmem,VR.mono E' OC⟩
   ·right
    refine bK (Option.isSome_iff_exists.mp (oQ fd.scope.names (s.heap.objs.size+1) [] (.inl (jH q)))) λc hc=>?_
    refine⟨.inl q,c,y,hc,?_,?_,VR.mono E' OC⟩
    ·have lU:=x.above _ c (mem_of_lookup hc)
     rintro⟨p,hp,e|e⟩
     ·obtain⟨⟨o,g⟩,_⟩:=S.alive hp
      have:=dh g
      rw[←e] at this
      exact Nat.lt_asymm lU this
     ·obtain⟨_,⟨o,g⟩⟩:=S.alive hp
      have:=dh g
      rw[←e] at this
      exact Nat.lt_asymm lU this
    ·have:=x.cell _ c hc
     rw[F5 q U1 hmem] at this
     exact this
theorem Iw(B:bE X mg mb)(Kp:Keeps X){n:Nat}(hC:SC X n)(hF:∀f d,P0 f=some d→jB X.NM X.K (X.FA f) d=true):SC X (n+1):=by
 intro f vs σ v τ he A μ s vals hR S hv R hQ
 refine dY λG hG=>?_
 refine aA (bind_some he) λd hd he=>?_
 refine aA (bind_some he) λρ hb he=>?_
 obtain⟨⟨fl,ρ',σ'⟩,hr,he⟩:=bind_some he
 refine HM (rZ (hF f d hd)) λoc od osl fd body O=>?_
 refine hG ?_
 have XK:=B.kx S
 refine codeAny_call_function (by have:=hR.2.1;exact ltN [_,_,_] 1 vA vB [.l 1 (.add (.add vA (.mulL 4 (.add vC (.num 1)))) (.num 118)) vB] aI this) (XK _ _ O.ho) rfl O.co O.gen O.hbody (codeRec_of XK O.code) ?_
 refine enter B O S hv hb λenv s' hsc mV F S' keep=>⟨B.nolimit.keeps S'.base,codeAny_func ?_⟩
 refine iF B Kp hC (xs:=d.locals) O.lt d.body (A.deeper env) env (d.locals.map some) ρ σ fl ρ' σ' μ s' body (hR.deeper env) (by rw[hsc];exact O.xw) F S' hr _ _ λbA f' s'' E' zX U3 Dy=>?_
 have EX:cU μ bA s.heap s''.heap:=ef.after (cU.more keep) E' (by rw[mV];exact kC (bS _))
 cases fl with
 |next=>
  simp only[x9] at Dy;subst Dy
  cases he
  exact hQ bA _ s'' EX zX (by simp only[VR])
 |ret u=>
  simp only[x9] at Dy
  obtain⟨x,rfl,hx⟩:=Dy
  exact(hQ.of he) bA _ s'' EX zX hx
 |brk=>cases he
 |cont=>cases he
theorem Iz:SC X 0:=by
 intro f vs σ v τ he
 simp only[af] at he
 cases he
theorem F8(B:bE X mg mb)(Kp:Keeps X)(hF:∀f d,P0 f=some d→jB X.NM X.K (X.FA f) d=true):∀n,SC X n
 |0=>Iz
 |n+1=>Iw B Kp (F8 B Kp hF n) hF
end
noncomputable def kj:Code→Bool
 | .builtin id _=> !(id=="type.__call__"||id=="bytearray.__init__"||id=="claim.caller")
 |_=>false
noncomputable def A4(Γ:PySem.Ctx):Prop:=∀x∈Γ.below,kj x.1=false
noncomputable def Clean(Γ:PySem.Ctx):Prop:=kj Γ.code=false∧A4 Γ
noncomputable def dQ{α:Type}(M:Model)(A:Around)(t:Sem α)(Q:α→Shared→Prop)(E:Value→Shared→Prop)(s:Shared):Prop:=
 ∀Γ p,Γ.In A→Clean Γ→Sem.wp M Γ t (λa _ s'=>Q a s') (λe _ s'=>E e s') p s
noncomputable def eT(M:Model)(A:Around)(c:Code)(R:Result→Shared→Prop)(s:Shared):Prop:=
 ∀Γ p,Γ.code=c→Γ.Below A→A4 Γ→wpCode M Γ R p s
section
variable {α β:Type} {M:Model} {A:Around} {E:Value→Shared→Prop} {s:Shared}
theorem kq{t:Sem α}{Q:α→Shared→Prop}(h:wpAny M A t Q E s):dQ M A t Q E s:=λΓ p hΓ _=>h Γ p hΓ
theorem F9{c:Code}{R:Result→Shared→Prop}(h:codeAny M A c R s):eT M A c R s:=λΓ p hc hΓ _=>h Γ p hc hΓ
theorem cS{t:Sem α}{Q Q':α→Shared→Prop}{E':Value→Shared→Prop}(h:dQ M A t Q E s)(hQ:∀a s,Q a s→Q' a s)(hE:∀e s,E e s→E' e s):dQ M A t Q' E' s:=
 λΓ p hΓ hC=>Sem.wp_mono M Γ t (λa _ s=>hQ a s) (λe _ s=>hE e s) p s (h Γ p hΓ hC)
theorem bz{m:Sem α}{f:α→Sem β}{Q:β→Shared→Prop}(h:dQ M A m (λa s'=>dQ M A (f a) Q E s') E s):dQ M A (m>>= f) Q E s:=λΓ p hΓ hC=>by
 rw[Sem.wp_bind']
 exact Sem.wp_mono M Γ m (λa p' s' h'=>h' Γ p' hΓ hC) (λ_ _ _ h'=>h') p s (h Γ p hΓ hC)
theorem aF{m:Sem α}{f:α→Sem β}{Q:β→Shared→Prop}(h:wpAny M A m (λa s'=>dQ M A (f a) Q E s') E s):dQ M A (m>>= f) Q E s:=bz (kq h)
theorem aY{a:α}{Q:α→Shared→Prop}(h:Q a s):dQ M A (pure a) Q E s:=λ_ _ _ _=>h
theorem fO{vs:List Value}{m:Sem α}{Q:α→Shared→Prop}(h:dQ M A m Q E s):dQ M A (holding vs m) Q E s:=
 λΓ p hΓ hC=>by rw[Sem.wp_holding];exact h Γ p hΓ hC
theorem mX{m:Sem α}{k:Value→Sem Unit}{Q:α→Shared→Prop}(h:dQ M A m Q (λe s'=>dQ M A (k e) (λ_ s''=>E e s'') E s') s):dQ M A (m.onRaise k) Q E s:=λΓ p hΓ hC=>by
 rw[Sem.wp_onRaise]
 exact Sem.wp_mono M Γ m (λ_ _ _ h'=>h') (λe p' s' h'=>h' Γ p' hΓ hC) p s (h Γ p hΓ hC)
theorem IA{m:Sem α}{k:Value→Sem α}{Q:α→Shared→Prop}(h:dQ M A m Q (λe s'=>dQ M A (k e) Q E s') s):dQ M A (tryCatch m k) Q E s:=λΓ p hΓ hC=>by
 rw[Sem.wp_tryCatch']
 exact Sem.wp_mono M Γ m (λ_ _ _ h'=>h') (λe p' s' h'=>h' Γ p' hΓ hC) p s (h Γ p hΓ hC)
theorem gS{m:Sem α}{f:α→Sem β}{a:α}{Q:β→Shared→Prop}(e:m=pure a)(h:dQ M A (f a) Q E s):dQ M A (m>>= f) Q E s:=by
 rw[e];exact bz (aY h)
theorem rC{Γ:PySem.Ctx}(hC:Clean Γ)(c:Code)(h:Option Value)(p:Pos):A4 (Γ.enter c h p):=by
 intro x hx
 rcases eH hx with rfl|hx
 ·exact hC.1
 ·exact hC.2 x hx
theorem IB{c:Code}{h:Option Value}{Q:Flow→Shared→Prop}(hc:eT M (A.mark h) c (λr s'=>match r with| .ok f=>Q f s'| .error e=>E e s') s)(hnb:h≠some byPass:=by intro x;cases x):dQ M A (run c h) Q E s:=
 λΓ p hΓ hC=>by rw[Sem.wp_run];exact hc _ p rfl (hΓ.enter c h p hnb) (rC hC c h p)
theorem xA{c:Code}{Q:Value→Shared→Prop}(hc:eT M A c (λr s'=>match r with| .ok (.ret v)=>Q v s'| .ok _=>False| .error e=>E e s') s):dQ M A (runValue c) Q E s:=
 λΓ p hΓ hC=>by rw[Sem.wp_runValue];exact hc _ p rfl (hΓ.enter c none p (by intro x;cases x)) (rC hC c none p)
theorem k9{f:Value}{pos:List Value}{kw:List (Str × Value)}{Q:Value→Shared→Prop}(hc:eT M A (.call f ⟨pos,kw⟩) (λr s'=>match r with| .ok (.ret v)=>Q v s'| .ok _=>False| .error e=>E e s') s):dQ M A (call f pos kw) Q E s:=xA hc
theorem A5{c:Code}{R R':Result→Shared→Prop}(h:eT M A c R s)(hR:∀r s,R r s→R' r s):eT M A c R' s:=λΓ p hc hΓ hC=>wpCode_mono hR (h Γ p hc hΓ hC)
theorem dg{c:Code}{R:Result→Shared→Prop}(hn:kj c=false)
  (h:dQ M (A.under c) (M.den c) (λfin s'=>match fin with| .done f=>R (.ok f) s'| .again c'=>c'.quiet=true∧eT M A c' R s') (λe s'=>R (.error e) s') s):eT M A c R s:=λΓ p hc hΓ hC=>by
 rw[wpCode_iff_wp,hc]
 refine Sem.wp_mono M Γ _ (λfin p' s' h'=>?_) (λ_ _ _ h'=>h') p s (h Γ p (hc▸hΓ.in) ⟨by rw[hc];exact hn,hC⟩)
 cases fin with
 |done f=>exact h'
 |again c'=>exact⟨h'.1,h'.2 (Γ.goto c') p' rfl (hΓ.goto c') hC⟩
theorem zq{c:Code}{R:Result→Shared→Prop}(hn:kj c=false)(hq:c.quiet=true)(I:Nat→Shared→Prop)
  (turn:∀n s,I n s→dQ M (A.under c) (M.den c)
   (λfin s'=>match fin with
    | .done f=>R (.ok f) s'
    | .again c'=>(c'=c∧∃m,m<n∧I m s')∨(c'.quiet=true∧eT M A c' R s')) (λe s'=>R (.error e) s') s)
  (n:Nat)(h:I n s):eT M A c R s:=by
 induction n using Nat.strongRecOn generalizing s with
 |ind n ih=>
  refine dg hn (cS (turn n s h) (λfin s' hf=>?_) λ_ _ h'=>h')
  cases fin with
  |done f=>exact hf
  |again c'=>
   rcases hf with⟨rfl,m,hm,hI⟩|hf
   ·exact⟨hq,ih m hm hI⟩
   ·exact hf
set_option tactic.hygienic true in
theorem xB {v : Value} {Q : Bool → Shared → Prop} (h : Q false s) : dQ M A (Builtin.Bytes.exported v) Q E s := by
  unfold Builtin.Bytes.exported
  intro Γ p hΓ hC
  rw [Sem.wp_bind']
  unfold stack
  rw [Sem.wp_stack]
  show Q _ s
  have key : ∀ (f : Code × Pos → Bool), (∀ x, kj x.1 = false → f x = false) → ∀ l : List (Code × Pos), (∀ x ∈ l, kj x.1 = false) → l.any f = false := fun f hf l hl => by
    rw [List.any_eq_false]
    intro x hx
    rw [hf x (hl x hx)]; exact Bool.false_ne_true
  refine (aj (fun b => Q b s) (key _ (fun x hx => ?_) _ ?_)).mpr h
  · obtain ⟨c, q⟩ := x
    revert hx
    cases c <;> intro hx <;> first | rfl | skip
    rename_i id a
    obtain ⟨l, m⟩ := a
    have hx := Bool.not_eq_eq_eq_not.mp hx
    rcases Bool.or_eq_true_iff.mp hx with hx | hx
    · rcases Bool.or_eq_true_iff.mp hx with hx | hx <;> (cases eX hx; cases l <;> first | rfl | exact Bool.and_false _)
    · cases eX hx; cases l <;> first | rfl | exact Bool.and_false _
  · intro x hx
    rcases eH hx with rfl | hx
    · exact hC.1
    · exact hC.2 x hx
end
namespace BM
theorem mro:mroOf (.type "bytearray")=pure [.type "bytearray",.type "object"]:=by rw[mroOf_type];kernel_rfl
theorem A6:typeLookup (.type "bytearray") "__new__"=pure (some (.builtin "bytearray.__new__")):=by rw[typeLookup_type,builtinLookup_eq_fast];kernel_rfl
theorem Dz:Slot "bytearray" "__init__" "bytearray.__init__":=
 .of (owner:="bytearray") (n:="__init__") (by rw[typeLookup_type,builtinLookup_eq_fast];kernel_rfl) (by decide+kernel) (by decide+kernel) (by decide+kernel)
  (by first|exact .inl (by decide+kernel)|exact .inr (by decide+kernel)) (by rw[isSubtype_type];kernel_rfl)
theorem called:TypeCalled "bytearray" "bytearray.__new__" "bytearray.__init__":=
 ⟨by decide+kernel,by decide+kernel,⟨_,_,mro⟩,madeBy_type mro A6 (by decide+kernel),by decide+kernel,by rw[isSubtype_type];kernel_rfl,Dz⟩
theorem typeCall(a:Value):checkTypeCall "bytearray" ⟨[a],[]⟩=pure ():=by kernel_rfl
theorem IC(a:Value):checkBuiltinCall "bytearray.__new__" ⟨[.type "bytearray",a],[]⟩=pure ():=by kernel_rfl
theorem DA(a b:Value):argsOk "bytearray.__init__" ⟨[a,b],[]⟩:=by unfold argsOk;kernel_rfl
theorem A7:entryFor table "bytearray.__init__"=some Builtin.«bytearray.__init__»:=by first|exact entryFor_of_fast (by kernel_rfl)|exact entryFor_of_tree (by kernel_rfl)
theorem bind(v:Value):Builtin.Bytes.bindOptional "bytearray.__init__" "bytearray" ["source","encoding","errors"] [v] []=pure [some v,none,none]:=by kernel_rfl
theorem idx:typeLookup (.type "bytes") "__index__"=pure none:=by rw[typeLookup_type,builtinLookup_eq_fast];kernel_rfl
theorem buf:typeLookup (.type "bytes") "__buffer__"=pure (some (.builtin "bytes.__buffer__")):=by rw[typeLookup_type,builtinLookup_eq_fast];kernel_rfl
theorem DB:entryFor table "bytearray.__new__"=some Builtin.«list.__new__»:=
 entryFor_alias (id':="list.__new__") (by kernel_rfl) (by first|rfl|decide+kernel|(unfold String.splitOn;simp+decide [String.splitOnAux])) (by decide+kernel) (by kernel_rfl)
theorem DC:plainId "bytearray.__new__"=true:=by decide+kernel
end BM
set_option maxRecDepth 1000000 in
set_option maxHeartbeats 4000000 in
theorem nU : ("bytearray.__new__".splitOn ".__new__").headD "" = "bytearray" := by simp +decide [String.splitOn, String.splitOnAux]
theorem gH:isSubtype (.type "bytearray") (.type "bytearray")=pure true:=by rw[isSubtype_type];kernel_rfl
section
variable {prog:Program} {w:World} {A:Around} {E:Value→Shared→Prop} {s:Shared}
theorem oR(a:Value){Q₁:Value→Shared→Prop}
  (h:Q₁ (.ref s.heap.objs.size) {s with heap:=s.heap.push (cL #[])}):
  codeAny (model prog w) A (.call (.builtin "bytearray.__new__") ⟨[.type "bytearray",a],[]⟩) (wants Q₁ E) s:=by
 refine codeAny_of_tree ?_
 refine au (wpAny_of_eq (BM.IC a) (aT ⟨plainId_quiet BM.DC _,codeAny_builtin_stack BM.DB rfl λp st=>?_⟩))
 have hsub:=gH
 obtain⟨hp,g,d,tk,os⟩:=s
 simp only[(nU)]
 wp_walk
 exact h
end
namespace BM
theorem rel:typeLookup (.type "bytearray") "__release_buffer__"=pure (some (.builtin "bytearray.__release_buffer__")):=by rw[typeLookup_type,builtinLookup_eq_fast];kernel_rfl
theorem ID:("bytearray.__release_buffer__".endsWith ("."++"__release_buffer__"))=true:=by decide+kernel
theorem Ga:"bytearray.__release_buffer__".dropRight ("__release_buffer__".length+1)="bytearray":=by decide+kernel
end BM
section
variable {prog:Program} {w:World} {A:Around} {E:Value→Shared→Prop} {s:Shared}
theorem uQ{a:Addr}{b:Array UInt8}{Q:Bool→Shared→Prop}(h:s.heap.get? a=some (cL b))(q:Q false s):wpAny (model prog w) A (Builtin.Bytes.ownRelease (.ref a)) Q E s:=by
 have hT:=gR h
 refine au (au (wpAny_specialOf hT BM.rel ?_))
 dsimp only
 refine ay BM.ID (?_)
 refine ay BM.Ga ?_
 exact wpAny_isInstance hT gH (aT q)
theorem Gb{a:Addr}{b:Array UInt8}(f:Array UInt8→Array UInt8){Q:Unit→Shared→Prop}(h:s.heap.get? a=some (cL b))(hz:(f b).size≤1000000)
  (q:∀h',h'.get? a=some (cL (f b))→Heap.SameBut a s.heap h'→Q () {s with heap:=h'}):wpAny (model prog w) A (updateBytearray a f) Q E s:=by
 refine au (wpAny_load h ?_)
 refine au (wpAny_update h ?_)
 have h2:(s.heap.update a (Obj.mapBytearray f)).get? a=some (cL (f b)):=Heap.get?_update_self (Obj.mapBytearray f) h rfl
 refine wpAny_lookBehind h2 ?_ (q _ h2 (Heap.SameBut.update ..))
 refine(?_:(if(f b).size>sizeLine then some "bytearray:memory" else none)=none)
 rw[aB]
 refine ay sizeLine_eq (?_)
 exact Nat.not_lt.mpr (cP [_] 1 vA (.num 16777216) [.l 1 vA (.num 1000000)] aI hz)
theorem zu{id:String}{b:Array UInt8}{t:Tok}:Builtin.Bytes.buffer? id (.bytes b t) true=pure (some b):=by
 kernel_rfl
theorem Gd{α:Type}{t e:Sem α}{Q:α→Shared→Prop}(h:dQ (model prog w) A e Q E s):dQ (model prog w) A (if false=true then t else e) Q E s:=h
theorem Ge{α:Type}{t e:Sem α}{Q:α→Shared→Prop}(h:wpAny (model prog w) A e Q E s):wpAny (model prog w) A (if false=true then t else e) Q E s:=h
theorem nV{a:Addr}{b:Array UInt8}{t:Tok}{Q:Value→Shared→Prop}(h:s.heap.get? a=some (cL #[]))(hz:b.size≤1000000)
  (q:∀h',h'.get? a=some (cL b)→Heap.SameBut a s.heap h'→Q .none {s with heap:=h'}):
  dQ (model prog w) A (Builtin.«bytearray.__init__» ⟨[.ref a,.bytes b t],[]⟩) (λfin s'=>∃v,fin=.done (.ret v)∧Q v s') E s:=by
 refine aF (uQ h ?_)
 refine Gd ?_
 refine gS (BM.bind _) ?_
 refine gS (a:=()) rfl ?_
 refine gS (a:=()) rfl ?_
 refine bz (m:=Builtin.Bytes.exported _ <||> _) ?_
 refine bz (xB ?_)
 refine aF ?_
 refine au (wpAny_load h (aT (aY ?_)))
 refine Gd ?_
 refine kq ?_
 refine au (Gb (λ_=> #[]) h (Nat.zero_le _) λh1 g1 s1=>?_)
 refine au (wpAny_of_eq (a:=none) rfl ?_)
 refine Ge ?_
 refine au (aT ?_)
 refine au (wpAny_of_eq (PySem.W.KBy.special_eq BM.idx) ?_)
 refine Ge ?_
 refine au (wpAny_of_eq zu ?_)
 refine au (wpAny_rule (au (Gb (s:={s with heap:=h1}) (λ_=>b) g1 hz λh2 g2 s2=>?_)))
 exact aT ⟨_,rfl,q h2 g2 (s1.trans s2)⟩
end
section
variable {prog:Program} {w:World} {A:Around} {E:Value→Shared→Prop} {s:Shared} {R:Result→Shared→Prop}
theorem kr{id:String}{args:Args}{b:Builtin}(hn:kj (.builtin id args)=false)(hb:entryFor table id=some b)
  (h:dQ (model prog w) (A.under (.builtin id args)) (b args) (λfin s'=>match fin with| .done f=>R (.ok f) s'| .again c'=>c'.quiet=true∧eT (model prog w) A c' R s') (λe s'=>R (.error e) s') s):
  eT (model prog w) A (.builtin id args) R s:=by
 refine dg hn ?_
 refine(?_:dQ _ _ (match entryFor table id with|some b=>b args|none=>unsupported ((withoutEnding? id "#data").getD id)) _ _ s)
 rw[hb];exact h
theorem oS{id:String}{args:Args}{b:Builtin}(hn:kj (.builtin id args)=false)(hq:plainId id=true)(hb:entryFor table id=some b)
  (h:wpAny (model prog w) A.in1 (checkBuiltinCall id args) (λ_ s₁=>dQ (model prog w) A.in1 (b args)
   (λfin s'=>match fin with| .done f=>R (.ok f) s'| .again c'=>c'.quiet=true∧eT (model prog w) A c' R s') (λe s'=>R (.error e) s') s₁)
   (λe s'=>R (.error e) s') s):eT (model prog w) A (.call (.builtin id) args) R s:=by
 refine dg rfl ?_
 refine aF (fq h (λ_ s₁ h₁=>aY (And.intro (plainId_quiet hq args) (kr hn hb (by rw[Around.under_plainId hq args];exact h₁)))) λ_ _ h'=>h')
theorem vX(a:Args):kj (.builtin "type.__call__" a)=false:=rfl
theorem DE(a:Args):kj (.builtin "bytearray.__init__" a)=false:=rfl
theorem tZ{b:Array UInt8}{t:Tok}{Q:Value→Shared→Prop}(hz:b.size≤1000000)
  (q:∀h',h'.get? s.heap.objs.size=some (cL b)→(∀c o,s.heap.get? c=some o→h'.get? c=some o)→Q (.ref s.heap.objs.size) {s with heap:=h'}):
  dQ (model prog w) A (call (.type "bytearray") [.bytes b t]) Q E s:=by
 have ft:=BM.called
 refine k9 (dg rfl ?_)
 show dQ _ _ (callAny (.type "bytearray") _) _ _ _
 refine aY ⟨Code.quiet_builtin _ (by decide+kernel),kr (vX _) F.entry_type_call ?_⟩
 refine ay (Around.under_plain (weight_type_call_type _ _ []) rfl) (?_)
 unfold Builtin.«type.__call__»
 dsimp only
 rw[ft.notType]
 simp only[Bool.false_eq_true,if_false]
 refine ay ft.canCreate (?_)
 simp only[Bool.false_eq_true,if_false]
 refine gS (BM.typeCall _) ?_
 refine gS BM.mro ?_
 refine gS ft.made ?_
 refine gS (a:= .builtin "bytearray.__new__") rfl ?_
 refine aF (cF (wpAny_call (codeAny_mono (oR (.bytes b t) (Q₁:=λo s'=>o=.ref s.heap.objs.size∧s'={s with heap:=s.heap.push (cL #[])}) (E:=λ_ _=>False) ⟨rfl,rfl⟩) λr s' hr=>?_)))
 cases r with
 |error e=>exact hr.elim
 |ok fl=>
  cases fl with
  |ret obj=>
   obtain⟨rfl,rfl⟩:=hr
   have g1:(s.heap.push (cL #[])).get? s.heap.objs.size=some (cL #[]):=dz _ rfl
   have hT:=gR (s:={s with heap:=s.heap.push (cL #[])}) g1
   refine aF (wpAny_isInstance hT gH ?_)
   refine bz (fO ?_)
   refine aF (wpAny_specialOf hT ft.init.lookup ?_)
   dsimp only
   refine fO ?_
   refine gS (ft.init.bind _) ?_
   refine bz (k9 (oS (DE _) ft.init.plain BM.A7 (ft.init.check _ _ _ _ _ _ _ _ hT (BM.DA _ _) ?_)))
   refine cS (nV (s:={s with heap:=s.heap.push (cL #[])}) (b:=b) (t:=t) (E:=λ_ _=>False) (Q:=λv s'=>v=.none∧∃h',h'.get? s.heap.objs.size=some (cL b)∧Heap.SameBut s.heap.objs.size (s.heap.push (cL #[])) h'∧s'={s with heap:=h'}) g1 hz λh' g' hs=>⟨rfl,h',g',hs,rfl⟩) (λfin s' hf=>?_) (λ_ _ hf=>hf.elim)
   obtain⟨v,rfl,rfl,h',g',hs,rfl⟩:=hf
   dsimp only
   refine aY ?_
   refine aY (q h' g' λc o g=>?_)
   exact(hs.2 c (Nat.ne_of_lt (dh g))).trans (gX _ g)
  |_=>exact hr.elim
end
section
variable {prog:Program} {w:World} {A:Around} {E:Value→Shared→Prop} {R:Result→Shared→Prop} {C:Addr} {h:Heap} {g:Array GenState} {d:Drawn} {t:Nat} {os:OsState}
theorem A8{dO:List Value}{init:Value}(Y:Makes (model prog w) h C)(hi:Looks (model prog w) h (typeLookup (.ref C) "__init__") (some init))
  (hb:∀self,Looks (model prog w) h (bindSpecial init self) (init,[self]))(bT:(some init != some (Value.builtin "object.__init__"))=true∨(dO=[]∧([]:List (Str × Value))=[]))
  (hq:eT (model prog w) (A.under (.builtin "type.__call__" ⟨.ref C::dO,[]⟩)) (.call init ⟨.ref (h.objs.size+1)::dO,[]⟩) (InitBack (h.objs.size+1) R) ⟨(h.push emptyDict).push (instObj C h.objs.size),g,d,t,os⟩):
  eT (model prog w) A (.call (.ref C) ⟨dO,[]⟩) R ⟨h,g,d,t,os⟩:=by
 have Y':=Y
 obtain⟨⟨oc,od,cd,sl,hC,e1,e2,e4⟩,made,base,self,top,call,typ⟩:=Y
 refine dg rfl ?_
 show dQ _ _ (callAny (.ref C) _) _ _ _
 refine aF (wpAny_load hC ?_)
 show dQ _ _ (callAny.viaDunder (.ref C) _) _ _ _
 unfold callAny.viaDunder
 refine aF (call.here ?_)
 dsimp only
 rw[tc_bind]
 refine bz (aY (bz (aY ?_)))
 refine aY (a:=Fin.again (.call (.builtin "type.__call__") ⟨.ref C::dO,[]⟩)) (And.intro rfl ?_)
 refine dg rfl ?_
 show dQ _ A.in1 (do checkBuiltinCall "type.__call__" ⟨.ref C::dO,[]⟩;again (.builtin "type.__call__" ⟨.ref C::dO,[]⟩)) _ _ _
 refine aF (check_slot tc_kind tc_split typ (tc_args _ _ _) (aY ⟨Code.quiet_builtin _ (by decide+kernel),kr (vX _) entry_typeCall ?_⟩))
 unfold Builtin.«type.__call__»
 have hm:Looks (model prog w) h (mroOf (.ref C)) cd.mro:=((Looks.ld (part:=none) hC).andThen .now).andThen .now
 have k:∀b o,h.get? b=some o→((h.push emptyDict).push (instObj C h.objs.size)).get? b=some o:=λb o e=>gX _ (gX _ e)
 have hx:((h.push emptyDict).push (instObj C h.objs.size)).get? (h.objs.size+1)=some (instObj C h.objs.size):=by heap_get
 have t1:Looks (model prog w) ((h.push emptyDict).push (instObj C h.objs.size)) (typeOf (.ref (h.objs.size+1))) (.ref C):=(Looks.ld hx).andThen .now
 have s1:=self.keeps k
 have i1:=hi.keeps k
 have b1:=(hb (.ref (h.objs.size+1))).keeps k
 dsimp only
 have e0:(Value.ref C==Value.type "type")=false:=rfl
 refine ay e0 (?_)
 simp only[Bool.false_eq_true,if_false]
 refine aF (hm.here ?_)
 refine ay e4 (?_)
 simp only[Bool.false_eq_true,if_false]
 refine aF (made.here ?_)
 dsimp only
 refine bz (aY ?_)
 refine aF (cF (wpAny_call (codeAny_mono (new_K (R:=λr s'=>r=.ok (.ret (.ref (h.objs.size+1)))∧s'=⟨(h.push emptyDict).push (instObj C h.objs.size),g,d,t,os⟩) Y' hi bT ⟨rfl,rfl⟩) λr s' hr=>?_)))
 obtain⟨rfl,rfl⟩:=hr
 dsimp only
 refine aF (Looks.here (t1.andThen s1) ?_)
 simp only[Bool.not_true,Bool.false_eq_true,if_false]
 refine bz (fO ?_)
 unfold callSpecial?
 refine aF (Looks.here (t1.andThen i1) ?_)
 dsimp only
 refine fO ?_
 refine aF (b1.here ?_)
 dsimp only
 refine bz (k9 (A5 hq λr s' z=>?_))
 rcases r with e|(v|_|_|_)<;>first|exact z|exact z.elim|skip
 obtain⟨rfl,z⟩:=z
 refine aY ?_
 dsimp only
 simp only[bne_self_eq_false,Bool.false_eq_true,if_false]
 exact aY z
end
section
variable {M:Model} {A:Around} {E:Value→Shared→Prop} {s:Shared} {env:PySem.Env}
theorem fP{st:Stmt}{dO:List Stmt}{Q:Flow→Shared→Prop}(h:dQ M A (exec st env) (λf s'=>match f with| .next=>dQ M A (execs dO env) Q E s'|f=>Q f s') E s):dQ M A (execs (st::dO) env) Q E s:=λΓ p hΓ hC=>by
 rw[execs_cons,Sem.wp_bind']
 refine Sem.wp_mono M Γ _ (λf p' s' h'=>?_) (λ_ _ _ h'=>h') _ _ (h Γ p hΓ hC)
 cases f<;>first|exact h' Γ p' hΓ hC|exact h'
theorem l7{x:Str}{pos' pos:Pos}{value:Expr}{Q:Flow→Shared→Prop}(h:dQ M A (eval value env) (λv s₁=>wpAny M A (storeName env x v) (λ_=>Q .next) E s₁) E s)
  (hs:swapsWith value (some (.Name x pos')) pos.line env=pure false):dQ M A (exec (.Assign [.Name x pos'] value pos) env) Q E s:=by
 refine ay (exec_Assign_Name env x pos' value pos hs) ?_
 refine aF (wpAny_standAt (bz (cS h (λv s₁ h₁=>?_) λ_ _ e=>e)))
 exact aF (wpAny_standAt (aF (wpAny_bindName (fq h₁ (λ_ s₂ h₂=>aY h₂) λ_ _ e=>e))))
theorem mY{o:Expr}{attr:Str}{pos' pos:Pos}{value:Expr}{Q:Flow→Shared→Prop}
  (h:dQ M A (eval value env) (λv s₁=>wpAny M A (eval o env) (λov s₂=>wpAny M A (setAttr ov attr v) (λ_=>Q .next) E s₂) E s₁) E s):dQ M A (exec (.Assign [.Attribute o attr pos'] value pos) env) Q E s:=by
 refine ay (plainObj_exec_Assign_Attribute o attr pos' value pos (tR _ _ _ _ _ _)) ?_
 refine aF (wpAny_standAt (bz (cS h (λv s₁ h₁=>?_) λ_ _ e=>e)))
 refine aF (au (cF (fq h₁ (λov s₂ h₂=>au (wpAny_standAt (au (cF (fq h₂ (λ_ s₃ h₃=>wpAny_release (aY h₃)) λ_ _ e=>e))))) λ_ _ e=>e)))
theorem Gf{α:Type}{vs:List Value}{m:Sem α}{Q:α→Shared→Prop}(h:dQ M A m Q E s):dQ M A (m.keep vs) Q E s:=
 λΓ p hΓ hC=>by rw[Sem.wp_keep];exact h Γ p hΓ hC
theorem xC{K:Frag}{pos:Pos}{f:Value}{args:List (Bool × Sem Value)}{Q:Value→Shared→Prop}(hplain:args.any (·.1)=false)(hk:keepIn K f=true)
  (h:dQ M A (evalArgs f true args []) (λa s₁=>K.In s₁.heap∧dQ M A (call f a.pos a.kw) Q E s₁) E s):dQ M A (callWith pos f [] args []) Q E s:=by
 refine bz (fO (cS h (λa s₁ h₁=>aF (wpAny_standAt ?_)) λ_ _ x=>x))
 refine aA (keeps_K (M:=M) hk _ h₁.1) λk hk' L=>?_
 simp only[(by rw[hplain];rfl:(args.any (·.1)||([]:List (Option Str × Sem Value)).any (·.1.isNone))=false)]
 refine aF (L.here ?_)
 have tail:∀{t:Sem Value},dQ M A t Q E s₁→dQ M A (t>>= λr=>holding [r] point>>= λ_=>pure r) Q E s₁:=
  λht=>bz (cS ht (λr s₂ hr=>aF (cF (wpAny_point (aY hr)))) λ_ _ x=>x)
 have h₂:=h₁.2
 have marked (mk:Value):dQ M A (callMarked mk f ([]++a.pos) a.kw) Q E s₁:=by unfold callMarked;exact Gf h₂
 clear L
 rcases hk' with rfl|rfl|rfl<;>dsimp only<;>first|exact tail h₂|(split<;>first|exact tail h₂|exact tail (marked _))
theorem pV{T:String}{pos:Pos}{args:List (Bool × Sem Value)}{Q:Value→Shared→Prop}(hplain:args.any (·.1)=false)
  (h:dQ M A (evalArgs (.type T) true args []) (λa s₁=>dQ M A (call (.type T) a.pos a.kw) Q E s₁) E s):dQ M A (callWith pos (.type T) [] args []) Q E s:=by
 refine bz (fO (cS h (λa s₁ h₁=>aF (wpAny_standAt ?_)) λ_ _ x=>x))
 simp only[hplain,Bool.or_false]
 refine bz (aY ?_)
 exact bz (cS (show dQ M A (call (.type T) ([]++a.pos) a.kw) Q E s₁ from h₁) (λr s₂ hr=>aF (cF (wpAny_point (aY hr)))) λ_ _ x=>x)
theorem pW{f:Value}{x:Sem Value}{dO:List (Bool × Sem Value)}{Q:Args→Shared→Prop}(h:dQ M A (spliced ((false,x)::dO)) (λvs s'=>Q ⟨vs,[]⟩ s') E s):dQ M A (evalArgs f true ((false,x)::dO) []) Q E s:=by
 refine bz (cS h (λvs s' h'=>?_) λ_ _ x=>x)
 refine fO ?_
 exact bz (aY (bz (aY (aY h'))))
theorem lq{x:Sem Value}{dO:List (Bool × Sem Value)}{Q:List Value→Shared→Prop}(h:dQ M A x (λv s₁=>wpAny M A (spliced dO) (λvs s₂=>Q (v::vs) s₂) E s₁) E s):dQ M A (spliced ((false,x)::dO)) Q E s:=by
 refine(?_:dQ M A (do let v ←x;let here ←pure [v];return here++(←holding here (spliced dO))) Q E s)
 refine bz (cS h (λv s₁ h₁=>?_) λ_ _ e=>e)
 refine bz (aY ?_)
 exact aF (cF (fq h₁ (λvs s₂ h₂=>aY h₂) λ_ _ e=>e))
end
section
variable {prog:Program} {w:World} {A:Around} {E:Value→Shared→Prop} {s:Shared} {R:Result→Shared→Prop}
theorem oU{body:List Stmt}{env:PySem.Env}(h:dQ (model prog w) (A.deeper env) (execs body env) (λf s'=>R (.ok (.ret (match f with| .ret v=>v|_=> .none))) s') (λ_ _=>False) s):eT (model prog w) A (.func body env) R s:=by
 refine dg rfl ?_
 refine aF (wpAny_point (bz (mX (cS h (λf s' h'=>?_) λ_ _ h'=>h'.elim))))
 cases f<;>exact aY h'
theorem gg{a:Addr}{args:Args}{o:Obj}{fd:FuncData}{body:List Stmt}(hroom:A.depth<recursionLimit)(ho:s.heap.get? a=some o)
  (jg:o.data=.func fd)(hco:fd.scope.isCoroutine=false)(hgen:fd.scope.isGenerator=false)(hbody:fd.body=.stmts body)(hcd:s.heap.CodeRec fd.code fd.qualname)
  (h:wpAny (model prog w) A.in1 (bindArgs fd args) (λbinds s₁=>
   wpAny (model prog w) A.in1 (newFunctionEnv fd.scope fd.globals fd.closure binds (fd.qualname++".<locals>.") (some a) fd.code none fd.builtins)
    (λenv s₂=>s₂.heap.NoLimit∧eT (model prog w) A (.func body env) R s₂) (λe s'=>R (.error e) s') s₁) (λe s'=>R (.error e) s') s):
  eT (model prog w) A (.call (.ref a) args) R s:=by
 refine dg rfl ?_
 refine(?_:dQ _ A.in1 (callAny (.ref a) args) _ _ s)
 refine aF (wpAny_load ho ?_)
 refine NT hcd λc oc vs tq hc hoc hdc hq=>?_
 simp only[jg,callFunction,hco,hgen,hbody,hc]
 rw[hc] at h
 refine aF (m:=field (.ref c) 1) (wpAny_field hoc hdc hq (bz (aY ?_)))
 exact aF (fq h (λbinds s₁ h₁=>aF (fq h₁ (λenv s₂ h₂=>aF (wpAny_enterFrame h₂.1 hroom
  (aY (And.intro rfl h₂.2)))) λ_ _ h'=>h')) λ_ _ h'=>h')
end
section
variable {X:Ctx} {n:Nat} {xs:List Nat} {mg mb:Str→Option Value}
theorem t7(B:bE X mg mb){A:Around}{env:PySem.Env}{ls:List (Option Nat)}{ρ:Env}{μ:Mu}{σ:aa}{s:Shared}{k i:Nat}{e:Expr}{l:List Nat}(hc:aJ ⟨X.NM,xs⟩ env.scope ls (.bH .bytearray k (.var i)) e=true)
  (F:gP X env ls ρ μ s.heap)(S:St X μ σ s)(hR:Room A n)(hv:ρ[i]? =some (some (.bytes l)))(hl:l.length≤1000){Q:Value→Shared→Prop}{E:Value→Shared→Prop}(hQ:lE X μ s (.aM l) σ Q):dQ (model X.prog X.w) A (eval e env) Q E s:=by
 refine kO hc λx p1 a pos hd hn hg hc=>?_
 ·have hn':=hn
  subst hn'
  have jg:(iz .bytearray==("__debug__":Str))=false:=iQ hd
  have hg':env.kindOf (iz .bytearray)=some .globalImplicit:=cz hg
  refine(?_:dQ _ _ (do callWith pos (←eval (.Name (iz .bytearray) p1) env) [] (backTo pos (starEach [a] env)) []) Q E s)
  refine aF (Name_function_global F.kind hg' (loadGlobal_builtin (mg:=mg) (mb:=mb) (v:=BJ .bytearray) ?_ (B.bi .bytearray).1 ?_ (B.bi .bytearray).2 ?_) jg)
  ·rw[F.glob];exact B.g.keeps S.base
  ·rw[F.blt];exact B.b.keeps S.base
  ·have hc2:aJ ⟨X.NM,xs⟩ env.scope ls (.var i) a=true:=hc
   refine ay (jZ hc2 (λz=>by cases z)) ?_
   refine pV rfl (pW (lq (kq (wQ i A env ls ρ σ _ σ μ s a hR hc2 F S (Ry hv:aH (af P0 n) ρ (.var i) σ=some (.bytes l,σ)) _ _ λao x₁ s₁ E₁ S₁ aU=>?_))))
   refine aT ?_
   refine VR.EK aU λarr t hb=>?_
   have l9:arr.size≤1000000:=by rw[←gV,←List.length_map (f:=λ(b:UInt8)=>b.toNat),hb];exact cP [_] 1 vA (.num 1000000) [.l 1 vA (.num 1000)] aI hl
   refine tZ l9 λh' g' hk=>?_
   refine hQ ao _ {s₁ with heap:=h'} (E₁.trans (cU.more hk)) (S₁.more (s':={s₁ with heap:=h'}) hk) ?_
   simp only[VR]
   exact⟨_,arr,rfl,S₁.fresh,g',hb⟩
end
section
variable {prog:Program} {w:World} {A:Around} {E:Value→Shared→Prop} {s:Shared}
theorem uR{R:Result→Shared→Prop}{cR:Expr}{it:Value}{body:List Stmt}{env:PySem.Env}(I:Nat→Shared→Prop)
  (turn:∀n s,I n s→wpAny (model prog w) A (pyNext it) (λr s₁=>match r with
   |none=>R (.ok .next) s₁
   |some v=>wpAny (model prog w) A (letOwnedTupleGo cR it v) (λ_ s₁'=>
     wpAny (model prog w) A (assign cR env v) (λ_ s₂=>dQ (model prog w) A (execs body env) (λf s₃=>match f with
      | .next| .cont=>∃m,m<n∧I m s₃
      | .brk=>R (.ok .next) s₃
      | .ret v=>R (.ok (.ret v)) s₃) (λ_ _=>False) s₂) (λ_ _=>False) s₁') (λ_ _=>False) s₁) (λ_ _=>False) s)
  (n:Nat)(h:I n s):eT (model prog w) A (.forLoop cR it body [] env) R s:=by
 refine zq rfl rfl I (λn s hI=>?_) n h
 refine(?_:dQ _ A ((forTurn cR it body [] env).onRaise (λx=>do noteFrame x env;theTreesLotGoes x)) _ _ s)
 refine mX (cS (E:=λ_ _=>False) ?_ (λ_ _ e=>e) (λ_ _ e=>e.elim))
 refine aF (wpAny_standAt ?_)
 refine aF (wpAny_onRaise (fq (turn n s hI) (λr s₁ h₁=>?_) λ_ _ h'=>h'.elim))
 cases r with
 |none=>exact aY (.inr ⟨rfl,F9 (codeAny_block (wpAny_execs_nil h₁))⟩)
 |some v=>
  refine aF (fq h₁ (λ_ s₁' h₁'=>?_) λ_ _ h'=>h')
  refine aF (fq h₁' (λ_ s₂ h₂=>bz (cS h₂ (λf s₃ h₃=>?_) λ_ _ h'=>h')) λ_ _ h'=>h')
  cases f with
  |next=>exact aY (.inl ⟨rfl,h₃⟩)
  |cont=>exact aY (.inl ⟨rfl,h₃⟩)
  |brk=>exact aY h₃
  |ret v=>exact aY h₃
theorem A9{c:Code}{env:PySem.Env}{Q:Flow→Shared→Prop}(hc:eT (model prog w) (A.mark none) c (λr s'=>match r with| .ok f=>Q f s'| .error e=>False) s):dQ (model prog w) A (runOwn c env none) Q E s:=by
 exact mX (cS (IB (E:=λ_ _=>False) hc) (λ_ _ e=>e) λ_ _ e=>e.elim)
theorem IE{cR iter:Expr}{body:List Stmt}{pos:Pos}{env:PySem.Env}{Q:Flow→Shared→Prop}
  (h:wpAny (model prog w) A (eval iter env) (λx s₁=>wpAny (model prog w) A (pyIter x) (λit s₂=>
   eT (model prog w) (A.mark none) (.forLoop cR it body [] env) (λr s'=>match r with| .ok f=>Q f s'| .error e=>False) s₂) E s₁) E s)
  (hs:∀x,foldedSetIterable iter env x=pure x):dQ (model prog w) A (exec (.For cR iter body [] pos) env) Q E s:=by
 refine aF (wpAny_standAt (aF (fq h (λx s₁ h₁=>?_) λ_ _ e=>e)))
 rw[hs]
 refine bz (aY (aF (wpAny_standAt ?_)))
 exact aF (cF (fq h₁ (λit s₂ h₂=>A9 h₂) λ_ _ e=>e))
end
section
variable {X:Ctx} {n:Nat} {xs:List Nat} {mg mb:Str→Option Value}
theorem Ba{A:Around}{env:PySem.Env}{ls:List (Option Nat)}{ok:aa→Bool}{I:Addr}{l:List V}{T:Nat→Mu→aa→Heap→Prop}(Sr:Src X A ok env.locals I l T){cR:Expr}{body:List Stmt}{fZ:Env→V→Option Env}{run:Env→aa→Option (Fl × Env × aa)}
  (Tg:yZ X A env ls cR fZ)(hb:∀ρ σ fl ρ' τ μ(s:Shared),gP X env ls ρ μ s.heap→St X μ σ s→run ρ σ=some (fl,ρ',τ)→∀Q,kY X env ls μ s fl ρ' τ Q→dQ (model X.prog X.w) A (execs body env) Q (λ_ _=>False) s)
  {AO:Env}{gm:aa}{nE:Mu}{s0:Shared}(F0:gP X env ls AO nE s0.heap)(S0:St X nE gm s0)(LM:T 0 nE gm s0.heap)(noI:¬bL nE I)
  {fl:Fl}{ρ':Env}{τ:aa}(Nc:g6 run fZ ok l AO gm=some (fl,ρ',τ))(Q:Flow→Shared→Prop)
  (hQ:∀bA f s',AN env.locals I nE bA s0.heap s'.heap→St X bA τ s'→gP X env ls ρ' bA s'.heap→x9 X bA s'.heap fl f→Q f s'):
  eT (model X.prog X.w) A (.forLoop cR (.ref I) body [] env) (λr s'=>match r with| .ok f=>Q f s'| .error e=>False) s0:=by
 exact uR (FP X env ls run fZ ok I l T (fl,ρ',τ) nE s0)
  (λk s hi=>ze (WB:=λQ s=>dQ (model X.prog X.w) A (execs body env) Q (λ_ _=>False) s) Sr Tg hb LM noI hQ hi (λ_ h=>h) (λ_ _ h=>h) (λm _ hm h=>⟨⟨m,hm,h⟩,⟨m,hm,h⟩⟩) (λ_ h=>h) λ_ _ h=>h)
  (l.length+1) ⟨0,AO,gm,nE,rfl,Nat.zero_le _,Nc,F0,S0,LM,.refl⟩
theorem oj(B:bE X mg mb){A:Around}(hR:Room A n){env:PySem.Env}{ls:List (Option Nat)}{ρ:Env}{μ:Mu}{σ:aa}{s:Shared}{k kb i j x c:Nat}{fs:List (Nat × V)}{l:List Nat}{st:Stmt}(hc:j4 ⟨X.NM,xs⟩ env.scope ls (.setattr (.var j) k (.bH .bytearray kb (.var i))) st=true)
  (F:gP X env ls ρ μ s.heap)(S:St X μ σ s)(hv:ρ[i]? =some (some (.bytes l)))(hl:l.length≤1000)(hj:ρ[j]? =some (some (.loc x)))(ho:σ[x]? =some (.inst c fs))(hfs:fs.length≤900){Q:Flow→Shared→Prop}{E:Value→Shared→Prop}
  (hQ:∀bA s',cU μ bA s.heap s'.heap→St X bA (σ.set x (.inst c (kF fs k (.aM l)))) s'→Q .next s'):dQ (model X.prog X.w) A (exec st env) Q E s:=by
 refine tN hc λb a p v' q c1 c2 c3 c4=>?_
 ·subst c1
  refine mY (t7 B c4 F S hR hv hl λao y s₁ E₁ S₁ aU=>?_)
  refine wQ j A env ls ρ σ _ _ ao s₁ _ hR c3 (F.mono E₁) S₁ (Ry hj:aH (af P0 n) ρ (.var j) σ=some (.loc x,σ)) _ _ λbB z s₂ E₂ S₂ cZ=>?_
  exact tO B S₂ cZ ho c2 hfs (VR.mono E₂ aU) λs₃ E₃ cu=>hQ _ _ ((E₁.trans E₂).trans E₃) cu
theorem mZ{K:Frag}{M:Model}{A:Around}{E:Value→Shared→Prop}{s:Shared}{env:PySem.Env}{pos:Pos}{f:Value}{ls:List (Option Nat)}{W:qU}{sc:Scope}{m:ME}{ms:List ME}{es:List Expr}{Q:Value→Shared→Prop}
  (hk:keepIn K f=true)(hc:jn W sc ls (m::ms) es=true)(h:dQ M A (spliced (backTo pos (starEach es env))) (λvs s₁=>K.In s₁.heap∧dQ M A (call f vs) Q E s₁) E s):
  dQ M A (callWith pos f [] (backTo pos (starEach es env)) []) Q E s:=by
 refine xC (lX hc) hk ?_
 refine nP (d9 hc) λe' q' cW st _ _=>?_
 subst cW
 rw[kW st] at h⊢
 exact pW h
theorem oV{g:Expr}{es:List Expr}{pos:Pos}{env:PySem.Env}{M:Model}{A:Around}{E:Value→Shared→Prop}{s:Shared}{Q:Value→Shared→Prop}{x:Str}{p:Pos}(hg:g=.Name x p)
  (h:dQ M A (do callWith pos (←eval g env) [] (backTo pos (starEach es env)) []) Q E s):dQ M A (eval (.Call g es [] pos) env) Q E s:=by
 subst hg;exact h
theorem IF(B:bE X mg mb)(Kp:Keeps X){m:Nat}(hC:SC X m)(hF:jB X.NM X.K (X.FA 7) f7=true){A:Around}(hR:pM A (m+1)){μ:Mu}{σ τ:aa}{s:Shared}{x:Nat}{l:List Nat}{k:Int}{vals:List Value}{ρ':Env}
  (S:St X μ σ s)(hv:bN X μ s.heap [.loc x,.bytes l,.int k,.bytes []] vals)(ho:σ[x]? =some (.inst 7 []))(hl:l.length≤1000)
  (he:aP (af P0 m) [some (.loc x),some (.bytes l),some (.int k),some (.bytes [])] (b7.drop 2) (σ.set x (.inst 7 [(13,.aM l),(15,.aM [])]))=some (.next,ρ',τ))
  {R:Result→Shared→Prop}(hQ:lE X μ s .none τ λy s'=>R (.ok (.ret y)) s'):eT (model X.prog X.w) A (.call (.ref (X.FA 7)) ⟨vals,[]⟩) R s:=by
 refine HM (rZ hF) λoc od osl fd body O=>?_
 have XK:=B.kx S
 have hb:kI f7 [.loc x,.bytes l,.int k,.bytes []]=some [some (.loc x),some (.bytes l),some (.int k),some (.bytes [])]:=rfl
 refine gg (by have:=hR.2.1;exact ltN [_,_,_] 1 vA vB [.l 1 (.add (.add vA (.mulL 4 (.add vC (.num 1)))) (.num 118)) vB] aI this) (XK _ _ O.ho) rfl O.co O.gen O.hbody (codeRec_of XK O.code) ?_
 refine enter B O S hv hb λenv s' hsc mV F S' keep=>⟨B.nolimit.keeps S'.base,oU ?_⟩
 have B4:=hR.deeper env
 have xw:=O.xw
 replace xw:=(hsc).symm▸xw
 refine fj (iD (m:= .setattr (.var 0) 13 (.bH .bytearray 14 (.var 1))) (r:=b7.drop 1) xw) λst1 q1 hb1 c1 h1=>?_
 refine fj (iD (m:= .setattr (.var 0) 15 (.bH .bytearray 14 (.var 3))) (r:=b7.drop 2) h1) λst2 q2 hb2 c2 h2=>?_
 clear h1 xw
 subst hb2
 refine ay hb1 ?_
 refine fP (oj B B4 c1 F S' rfl hl rfl ho (Nat.zero_le _) λao s₁ E₁ S₁=>?_)
 have XI:(σ.set x (.inst 7 (kF [] 13 (.aM l))))[x]? =some (.inst 7 [(13,.aM l)]):=List.getElem?_set_self (eY ho).1
 refine fP (oj B B4 c2 (F.mono E₁) S₁ rfl (Nat.zero_le _) rfl XI (by simp) λbB s₂ E₂ S₂=>?_)
 rw[List.set_set] at S₂
 refine kq (iF B Kp hC (xs:=f7.locals) O.lt (b7.drop 2) (A.deeper env) env (f7.locals.map some) _ _ _ _ _ bB s₂ q2 B4 h2 (F.mono (E₁.trans E₂)) S₂ he _ _ λbA f' s'' E' zX U3 Dy=>?_)
 simp only[x9] at Dy;subst Dy
 exact hQ bA _ s'' (ef.after (cU.more keep) ((E₁.trans E₂).l.trans E') (by rw[mV];exact kC (bS _))) zX (by simp only[VR])
theorem DF(B:bE X mg mb)(Kp:Keeps X){m:Nat}(XJ:SC X m)(U4:SC X (m+1))(OD:jB X.NM X.K (X.FA 7) f7=true)(OE:jB X.NM X.K (X.FA 9) f9=true){A:Around}(hR:pM A (m+2)){μ:Mu}{σ τ:aa}{s:Shared}{l:List Nat}{k:Int}{vals:List Value}{v:V}
  (S:St X μ σ s)(hv:bN X μ s.heap [.bytes l,.int k] vals)(he:kJ m l k σ=some (v,τ))
  {R:Result→Shared→Prop}(hQ:lE X μ s v τ λy s'=>R (.ok (.ret y)) s'):eT (model X.prog X.w) A (.call (.ref (X.FA 9)) ⟨vals,[]⟩) R s:=by
 unfold kJ at he
 refine dY λG hG=>?_
 split at he<;>try (cases he;done)
 rename_i hl
 obtain⟨⟨f1,oN,σ1⟩,XM,he⟩:=bind_some he
 dsimp only at he
 split at he<;>try (cases he;done)
 obtain⟨⟨f2,oO,σ2⟩,RC,he⟩:=bind_some he
 dsimp only at he
 split at he<;>try (cases he;done)
 rename_i u
 refine hG ?_
 refine HM (rZ OE) λoc od osl fd body O=>?_
 have XK:=B.kx S
 have hb:kI f9 [.bytes l,.int k]=some [some (.bytes l),some (.int k),some (.bytes []),none]:=rfl
 refine gg (by have:=hR.2.1;exact ltN [_,_,_] 1 vA vB [.l 1 (.add (.add vA (.mulL 4 (.add vC (.num 2)))) (.num 118)) vB] aI this) (XK _ _ O.ho) rfl O.co O.gen O.hbody (codeRec_of XK O.code) ?_
 refine enter B O S hv hb λenv s' hsc mV F S' keep=>⟨B.nolimit.keeps S'.base,oU ?_⟩
 have B4:=hR.deeper env
 have xw:=O.xw
 replace xw:=(hsc).symm▸xw
 refine fj (iD (m:= .assign 3 (.call (.glob 24 (.cl 7)) [.var 0,.var 1,.var 2])) (r:=b9.drop 1) xw) λst1 q1 hb1 c1 h1=>?_
 clear xw
 refine ay hb1 ?_
 refine fP ?_
 refine qB c1 λt p v' q c1 c2 c3=>?_
 refine l7 ?_ (iZ c2 _ _ _)
 refine jX c3 λg es pos c4 c5 c6=>?_
 have hg:∃x p,g=.Name x p:=jW c5 λ_ _ _ _ _ _=>⟨_,_,rfl⟩
 refine jo hg λgx gp hg=>?_
 refine oV hg ?_
 have RZ:aJ ⟨X.NM,f9.locals⟩ env.scope (f9.locals.map some) (.glob 24 (.cl 7)) g=true:=c5
 refine aF (pN B 24 (.cl 7) (A.deeper env) env _ _ σ (.cl 7) σ μ s' _ B4 RZ F S' rfl _ _ λao fv s₁ E₁ S₁ aU=>?_)
 simp only[VR] at aU
 obtain⟨rfl,hk⟩:=aU
 have hms:∀m'∈[ME.var 0,.var 1,.var 2],SE X (m+1) f9.locals m':=λm' hm'=>aG B Kp U4 O.lt m'
 refine mZ (Kp.cl 7 hk) c6 (kq (fN [.var 0,.var 1,.var 2] hms (A.deeper env) env _ _ σ [.bytes l,.int k,.bytes []] σ ao s₁ es pos B4 c6 (F.mono E₁) S₁ rfl _ _ λbB ys s₂ E₂ S₂ cZ=>?_))
 refine⟨B.kx S₂,k9 ?_⟩
 have C:=B.cls 7 hk
 have R5:=B.kx S₂
 obtain⟨hh,g₂,d₂,t₂,yO⟩:=s₂
 refine A8 (makes_of R5 C.makes) (looks_findIn R5 C.init) (λself=>bind_fn R5 self C.K8) (.inl rfl) ?_
 obtain⟨cu,E₃⟩:=S₂.cell (s':=⟨(hh.push emptyDict).push (instObj (X.CA 7) hh.objs.size),g₂,d₂,t₂,yO⟩) (p:=(hh.objs.size+1,hh.objs.size)) (o:= .inst 7 [])
  (λb x g=>gX _ (gX _ g)) (Nat.le_succ _) (bS _)
  ⟨by simp, #[],0,by heap_get,by heap_get,by simp only[mJ],hk,rfl⟩
 have aV:σ.length=bB.length:=S₂.len.symm
 have R6:(σ++[Mine.O.inst 7 []]).set σ.length (.inst 7 [(13,.aM l),(15,.aM [])])=σ++[.inst 7 [(13,.aM l),(15,.aM [])]]:=by
  rw[List.set_append_right _ _ (bS _)];simp
 refine IF B Kp XJ OD (B4.under _ _) (x:=σ.length) (l:=l) (k:=k) (τ:=σ1) cu (vals:= .ref (hh.objs.size+1)::ys) ?_ (by simp) hl (by rw[R6];exact XM) ?_
 ·simp only[bN]
  refine⟨_,_,rfl,?_,by have:=cZ.mono E₃;simpa only[bN] using this⟩
  exact⟨(hh.objs.size+1,hh.objs.size),by rw[aV];simp,rfl⟩
 ·intro iX x s₄ gk iA kU
  simp only[VR] at kU
  refine⟨kU,?_⟩
  have EE:=((E₁.trans E₂).trans E₃).trans gk
  refine kZ B (F.mono EE) iA (u:= .loc σ.length) (y:= .ref (hh.objs.size+1)) (by simp only[VR];exact⟨(hh.objs.size+1,hh.objs.size),gk.get (by rw[aV];simp),rfl⟩) c1 λs₅ xd xe OF _=>?_
  refine kq (iF B Kp U4 (xs:=f9.locals) O.lt (b9.drop 1) (A.deeper env) env (f9.locals.map some) _ _ _ _ _ iX s₅ q1 B4 h1 OF xe RC _ _ λbA f' s'' E' zX U3 Dy=>?_)
  simp only[x9] at Dy
  obtain⟨y,rfl,hy⟩:=Dy
  exact(hQ.of he) bA _ s'' (ef.after (cU.more keep) ((EE.l.trans xd).trans E') (by rw[mV];exact kC (bS _))) zX hy
end
theorem vY(env:PySem.Env):∀(a b:List Stmt),execs (a++b) env=(execs a env>>= λf=>match f with| .next=>execs b env|f=>pure f)
 | [],b=>by
  refine(?_:execs b env=(pure Flow.next>>= λf=>match f with| .next=>execs b env|f=>pure f))
  rw[pure_bind]
 |st::r,b=>by
  rw[List.cons_append,execs_cons,execs_cons,bind_assoc]
  congr 1
  funext f
  cases f with
  |next=>exact vY env r b
  |brk=>rw[pure_bind]
  |cont=>rw[pure_bind]
  |ret v=>rw[pure_bind]
theorem om{M:Model}{A:Around}{E:Value→Shared→Prop}{s:Shared}{env:PySem.Env}{a b:List Stmt}{Q:Flow→Shared→Prop}(h:wpAny M A (execs a env) (λf s'=>match f with| .next=>dQ M A (execs b env) Q E s'|f=>Q f s') E s):dQ M A (execs (a++b) env) Q E s:=by
 rw[vY]
 refine aF (fq h (λf s' h'=>?_) λ_ _ e=>e)
 cases f<;>first|exact h'|exact aY h'
theorem t8{W:qU}{sc:Scope}{ls:List (Option Nat)}:∀{a b:List MS}{q:List Stmt},jM W sc ls (a++b) q=true→∃q1 q2,q=q1++q2∧jM W sc ls a q1=true∧jM W sc ls b q2=true
 | [],b,q,h=>⟨[],q,rfl,rfl,h⟩
 |m::r,b,q,h=>by
  refine fj (iD (m:=m) (r:=r++b) h) λst q' cW c1 c2=>?_
  refine ay cW ?_
  refine fj (t8 c2) λq1 q2 cW d1 d2=>?_
  refine ay cW ?_
  exact⟨st::q1,q2,rfl,Bool.and_eq_true_iff.mpr ⟨c1,d1⟩,d2⟩
section
variable {X:Ctx} {n:Nat} {xs:List Nat} {mg mb:Str→Option Value}
theorem uS(B:bE X mg mb)(Kp:Keeps X)(hC:∀n,SC X n){m:Nat}(OD:jB X.NM X.K (X.FA 7) f7=true)(OE:jB X.NM X.K (X.FA 9) f9=true)(cC:∀i∈xs,i<aO.length){A:Around}(hR:Room A (m+2)){env:PySem.Env}{ls:List (Option Nat)}{ρ:Env}{μ:Mu}{σ σ1 σ2:aa}{s:Shared}
  {e:Expr}{l:List Nat}{k:Int}{pv:V}(hc:aJ ⟨X.NM,xs⟩ env.scope ls (.call (.glob 142 (.fn 9)) [.var 13,iT]) e=true)(F:gP X env ls ρ μ s.heap)(S:St X μ σ s)(hv:ρ[13]? =some (some (.bytes l)))(hk:aH (af P0 (m+2)) ρ iT σ=some (.int k,σ1))(he:kJ m l k σ1=some (pv,σ2))
  {Q:Value→Shared→Prop}{E:Value→Shared→Prop}(hQ:lE X μ s pv σ2 Q):dQ (model X.prog X.w) A (eval e env) Q E s:=by
 refine jX hc λg es pos c4 c5 c6=>?_
 have hg:∃x p,g=.Name x p:=jW c5 λ_ _ _ _ _ _=>⟨_,_,rfl⟩
 refine jo hg λgx gp hg=>?_
 refine oV hg ?_
 have RZ:aJ ⟨X.NM,xs⟩ env.scope ls (.glob 142 (.fn 9)) g=true:=c5
 refine aF (pN B 142 (.fn 9) A env ls ρ σ (.fn 9) σ μ s _ hR RZ F S rfl _ _ λao fv s₁ E₁ S₁ aU=>?_)
 refine ay (aU) ?_
 have hL:jU (af P0 (m+2)) ρ [.var 13,iT] σ=some ([.bytes l,.int k],σ1):=by
  show(aH _ ρ (.var 13) σ).bind _=_
  refine ay (Ry hv) (?_)
  show((aH _ ρ iT σ).bind _).map _=_
  refine ay hk (?_)
  rfl
 refine mZ (Kp.fn 9 (by decide)) c6 (kq (fN [.var 13,iT] (λm' hm'=>aG B Kp (hC _) cC m') A env ls ρ σ _ _ ao s₁ es pos hR c6 (F.mono E₁) S₁ hL _ _ λbB ys s₂ E₂ S₂ cZ=>?_))
 refine⟨B.kx S₂,k9 ?_⟩
 exact DF B Kp (hC _) (hC _) OD OE hR.toC S₂ cZ he λdP x s₃ E₃ cu kg=>hQ dP x s₃ ((E₁.trans E₂).trans E₃) cu kg
theorem Bb(B:bE X mg mb){m:Nat}(hC:SC X m){A:Around}(hR:Room A m){c:Nat}(hk:c∈lI){μ:Mu}{σ τ:aa}{s:Shared}{vs:List V}{ys:List Value}(S:St X μ σ s)(hV:bN X μ s.heap vs ys)(he:af P0 m c (.loc σ.length::vs) (σ++[.inst c []])=some (.none,τ))
  {Q:Value→Shared→Prop}{E:Value→Shared→Prop}(hQ:lE X μ s (.loc σ.length) τ Q):wpAny (model X.prog X.w) A (call (.ref (X.CA c)) ys) Q E s:=by
 refine wpAny_call ?_
 have C:=B.cls c hk
 have XK:=B.kx S
 obtain⟨hh,g₂,d₂,t₂,yO⟩:=s
 refine make_core (makes_of XK C.makes) (looks_findIn XK C.init) (λself=>bind_fn XK self C.K8) (.inl rfl) ?_
 obtain⟨cu,E₃⟩:=S.cell (s':=⟨(hh.push emptyDict).push (instObj (X.CA c) hh.objs.size),g₂,d₂,t₂,yO⟩) (p:=(hh.objs.size+1,hh.objs.size)) (o:= .inst c [])
  (λb x g=>gX _ (gX _ g)) (Nat.le_succ _) (bS _)
  ⟨by simp, #[],0,by heap_get,by heap_get,by simp only[mJ],hk,rfl⟩
 refine hC c (.loc σ.length::vs) (σ++[.inst c []]) .none τ he _ _ _ (.ref (hh.objs.size+1)::ys) (hR.under _ _) cu ?_ _ ?_
 ·simp only[bN]
  refine⟨_,_,rfl,?_,hV.mono E₃⟩
  exact⟨(hh.objs.size+1,hh.objs.size),by rw[←S.len];simp,rfl⟩
 ·intro iX x s₄ gk iA kU
  simp only[VR] at kU
  refine⟨kU,hQ iX _ s₄ (E₃.trans gk) iA ?_⟩
  exact⟨(hh.objs.size+1,hh.objs.size),gk.get (by rw[←S.len];simp),rfl⟩
theorem Gg(B:bE X mg mb)(Kp:Keeps X)(hC:∀n,SC X n){m:Nat}(OD:jB X.NM X.K (X.FA 7) f7=true)(OE:jB X.NM X.K (X.FA 9) f9=true)(cC:∀i∈xs,i<aO.length){A:Around}(hR:Room A (m+2)){env:PySem.Env}{ls:List (Option Nat)}{body:List Stmt}
  (hc:jM ⟨X.NM,xs⟩ env.scope ls o8 body=true):∀ρ σ fl ρ' τ μ(s:Shared),gP X env ls ρ μ s.heap→St X μ σ s→o9 m ρ σ=some (fl,ρ',τ)→∀Q,kY X env ls μ s fl ρ' τ Q→dQ (model X.prog X.w) A (execs body env) Q (λ_ _=>False) s:=by
 intro ρ σ fl ρ' τ μ s F S he Q hQ
 refine fj (t8 (a:=wK) (b:=o8.drop 3) hc) λq1 q2 cW c1 c2=>?_
 clear hc
 refine ay cW ?_
 refine fj (iD (m:= .assign 14 (.call (.glob 141 (.cl 53)) [(.call (.glob 142 (.fn 9)) [.var 13,iT]),.dict [],.var 8])) (r:=rV) c2) λst q3 cW c3 c4=>?_
 clear c2
 refine ay cW ?_
 refine dY λG hG=>?_
 obtain⟨⟨f1,oN,σ1⟩,h1,he⟩:=bind_some he
 refine hG ?_
 refine om (iF B Kp (hC _) cC wK A env ls ρ σ f1 oN σ1 μ s q1 hR c1 F S h1 _ _ λao f s₁ E₁ S₁ F₁ iE=>?_)
 clear h1
 cases f1 with
 |brk=>
  cases he
  have xm:=iE
  simp only[x9] at iE;subst iE
  exact hQ _ _ _ E₁ S₁ F₁ xm
 |cont=>
  cases he
  have xm:=iE
  simp only[x9] at iE;subst iE
  exact hQ _ _ _ E₁ S₁ F₁ xm
 |ret v=>
  cases he
  have xm:=iE
  simp only[x9] at iE
  obtain⟨x,rfl,_⟩:=iE
  exact hQ _ _ _ E₁ S₁ F₁ xm
 |next=>
  simp only[x9] at iE;subst iE
  refine dY λG hG=>?_
  refine bw he λsv Uz h2 he=>?_
  dsimp only at he
  unfold wL at h2
  split at h2<;>try (cases h2;done)
  rename_i l hl
  refine bw h2 λkv σ2 h3 h2=>?_
  dsimp only at h2
  refine kE h2 λk bP h2=>?_
  subst bP
  refine bw h2 λpv σ3 h4 h2=>?_
  dsimp only at h2
  refine bw h2 λvs XN h5 h2=>?_
  dsimp only at h2
  refine bw h2 λr Zv h6 h2=>?_
  dsimp only at h2
  refine Ae h2 λbP h2=>?_
  subst bP
  cases h2
  refine hG ?_
  refine fP ?_
  refine qB c3 λt p v' q d1 d2 d3=>?_
  refine l7 ?_ (iZ d2 _ _ _)
  refine jX d3 λg es pos d4 d5 d6=>?_
  have hg:∃x p,g=.Name x p:=jW d5 λ_ _ _ _ _ _=>⟨_,_,rfl⟩
  refine jo hg λgx gp hg=>?_
  refine oV hg ?_
  refine aF (pN B 141 (.cl 53) A env ls oN σ1 (.cl 53) σ1 ao s₁ _ hR d5 F₁ S₁ rfl _ _ λbB fv s₂ E₂ S₂ cZ=>?_)
  simp only[VR] at cZ
  obtain⟨rfl,hk⟩:=cZ
  refine mZ (Kp.cl 53 hk) d6 ?_
  refine nP (d9 d6) λe1 es' cW st1 d7 d8=>?_
  clear d6
  refine ay cW ?_
  refine ay (kW st1) (?_)
  refine lq (uS B Kp hC OD OE cC hR d7 (F₁.mono E₂) S₂ hl h3 h4 λdP px s₃ E₃ cu kg=>?_)
  refine fN [.dict [],.var 8] (λm' hm'=>aG B Kp (hC _) cC m') A env ls oN σ3 vs XN dP s₃ es' pos hR d8 ((F₁.mono E₂).mono E₃) cu h5 _ _ λiX ys s₄ gk iA kU=>?_
  refine⟨B.kx iA,kq ?_⟩
  refine Bb B (hC _) hR hk (vs:=pv::vs) (ys:=px::ys) iA (by simp only[bN];exact⟨_,_,rfl,kg.mono gk,kU⟩) h6 λvt sx s₅ xd xe CR=>?_
  have EE:=((E₂.trans E₃).trans gk).trans xd
  refine kZ B (F₁.mono EE) xe CR d1 λs₆ R7 R8 R9 _=>?_
  exact kq (iF B Kp (hC _) cC rV A env ls _ _ _ _ _ vt s₆ q3 hR c4 R9 R8 he _ _ (hQ.more ((E₁.trans EE.l).trans R7)))
theorem Sa(B:bE X mg mb)(Kp:Keeps X)(hC:∀n,SC X n)(hF:∀f d,fns[f]? =some d→jB X.NM X.K (X.FA f) d=true){m:Nat}{A:Around}(hR:pM A (m+3)){μ:Mu}{s:Shared}{script:List Int}{vals:List Value}
  (S:St X μ [] s)(hv:bN X μ s.heap [.lst (script.map .int)] vals){v:V}{ρ':Env}{τ:aa}(he:Af m script=some (.ret v,ρ',τ))
  {R:Result→Shared→Prop}(hQ:lE X μ s v τ λy s'=>R (.ok (.ret y)) s'):eT (model X.prog X.w) A (.call (.ref (X.FA 67)) ⟨vals,[]⟩) R s:=by
 refine dY λG hG=>?_
 refine HM (rZ (hF 67 KS rfl)) λoc od osl fd body O=>?_
 have XK:=B.kx S
 refine aA (bind_some he) λAO hb he=>?_
 obtain⟨⟨f1,oN,σ1⟩,h1,he⟩:=bind_some he
 refine hG ?_
 refine gg (by have:=hR.2.1;exact ltN [_,_,_] 1 vA vB [.l 1 (.add (.add vA (.mulL 4 (.add vC (.num 3)))) (.num 118)) vB] aI this) (XK _ _ O.ho) rfl O.co O.gen O.hbody (codeRec_of XK O.code) ?_
 refine enter B O S hv hb λenv s' hsc mV F S' keep=>⟨B.nolimit.keeps S'.base,oU ?_⟩
 have B4:Room (A.deeper env) (m+2):=hR.deeper env
 have xw:=O.xw
 replace xw:=(hsc).symm▸xw
 refine fj (t8 (a:=HG.take 4) (b:=HG.drop 4) xw) λq1 q2 hq c1 c2=>?_
 clear xw
 refine ay hq ?_
 refine om (iF B Kp (hC _) (xs:=KS.locals) O.lt (HG.take 4) (A.deeper env) env _ AO [] f1 oN σ1 μ s' q1 B4 c1 F S' h1 _ _ λao f s₁ E₁ S₁ F₁ iE=>?_)
 have fin:∀{bA:Mu}{f:Flow}{s'':Shared},ef env.locals μ bA s'.heap s''.heap→St X bA τ s''→x9 X bA s''.heap (.ret v) f→R (.ok (.ret (match f with| .ret v=>v|_=> .none))) s'':=λE' zX Dy=>by
  refine aA Dy λy bP hy=>?_
  clear Dy
  subst bP
  exact hQ _ _ _ (ef.after (cU.more keep) E' (by rw[mV];exact kC (bS _))) zX hy
 clear h1
 cases f1 with
 |brk=>cases he
 |cont=>cases he
 |ret u=>
  refine dY λG hG=>?_
  cases he
  refine aA iE λx bP _=>?_
  subst bP
  refine hG ?_
  exact fin E₁ S₁ (iE)
 |next=>
  simp only[x9] at iE;subst iE
  refine dY λG hG=>?_
  obtain⟨⟨f2,oO,σ2⟩,h2,he⟩:=bind_some he
  refine fj (iD (m:= .for 9 (.bH .range 84 (.lit (.int 8))) o8) (r:=HG.drop 5) c2) λst q3 XO c3 c4=>?_
  subst XO
  refine hG ?_
  refine fP ?_
  refine FH c3 λt p j body' q d1 d2 d3=>?_
  have XQ:aH (af P0 (m+2)) oN (.bH .range 84 (.lit (.int 8))) σ1=some (.rJ 8,σ1):=by
   rfl
  refine IE (aG B Kp (hC _) (xs:=KS.locals) O.lt (.bH .range 84 (.lit (.int 8))) (A.deeper env) env _ oN σ1 _ _ ao s₁ _ B4 d2 F₁ S₁ XQ _ _ λbB y s₂ E₂ S₂ cZ=>?_) (iB d2 (λz=>by cases z) env)
  have yW:=F₁.mono E₂
  have g8:jf (.rJ 8) σ1=some (upTo 0 8):=rfl
  refine xr (A:=A.deeper env) B4.1 S₂ yW.at cZ g8 yW.ie λI T s₃ Sr dI no hk hT cu=>?_
  refine Ba (A:=A.deeper env) Sr (zg B d1) (Gg B Kp hC (hF 7 f7 rfl) (hF 9 f9 rfl) O.lt B4 d3) (yW.mono (cU.more hk)) cu hT no h2 _ λiX f s₄ EJ iA Sb IG=>?_
  have EE:ef env.locals μ iX s'.heap s₄.heap:=(E₁.trans E₂.l).trans (EJ.close hk dI yW.at)
  clear h2 hQ
  cases f2 with
  |brk=>cases he
  |cont=>cases he
  |ret u=>
   refine dY λG hG=>?_
   refine dY λG hG=>?_
   cases he
   refine hG ?_
   have L8:=IG
   refine aA IG λx bP _=>?_
   subst bP
   refine hG ?_
   exact fin EE iA L8
  |next=>
   simp only[x9] at IG;subst IG
   dsimp only at he⊢
   refine dY λG hG=>?_
   cases he
   refine hG ?_
   refine kq (iF B Kp (hC _) (xs:=KS.locals) O.lt (HG.drop 5) (A.deeper env) env _ _ _ _ _ _ iX s₄ q3 B4 c4 Sb iA rfl _ _ λvt f s₅ xd xe OF L8=>?_)
   exact fin (EE.trans xd) xe L8
end
end Mine
namespace Mine.Top
open PySem _root_.PySem.W PySem.Calls PyProof.Rows
theorem xD:Clean ⟨.builtin "claim.caller" {},none,none,[],none⟩:=⟨rfl,λx hx=>nomatch hx⟩
theorem Ma{prog:Program}{w:World}{t:Sem Fin}{s:Shared}{R:Result→Shared→Prop}(hreg:s.asleep)
  (h:dQ (model prog w) callerA t (λfin s'=>∃f,fin=.done f∧(R (.ok f) s'∧leftWithCleanup s'.gens=false)) (λe s'=>R (.error e) s'∧leftWithCleanup s'.gens=false) s):
  ∃n r s' s'',runN (denote table) prog w n s ⟨t,.builtin "claim.caller" {},default,[]⟩=.halted (outcomeOf r) s'∧
   schedN (denote table) prog w n (.single s ⟨t,.builtin "claim.caller" {},default,[]⟩)=.halted (outcomeOf r) s'∧s'.forget=s''.forget∧R r s'':=by
 have h2:Sem.wp (model prog w) ⟨.builtin "claim.caller" {},none,none,[],none⟩ t (Sem.finPost (model prog w) ⟨.builtin "claim.caller" {},none,none,[],none⟩ λr s'=>R r s'∧leftWithCleanup s'.gens=false) (λe _ s'=>R (.error e) s'∧leftWithCleanup s'.gens=false) default s:=by
  refine Sem.wp_mono _ _ t (λfin p' s' h'=>?_) (λ_ _ _ h'=>h') default s (h _ default caller_in xD)
  refine aA h' λf bP hf=>?_
  refine ay bP ?_
  exact hf
 refine NT (wp_halts_full (M:=model prog w) (R:=R) hreg h2) λn r s₁ s₂ hs hn hfo hR=>?_
 exact⟨n,r,s₂,s₁,hn,hs,hfo,hR⟩
theorem Bc{c:ClaimW}{tree:List Value→Sem Fin}{w:World}{s:Shared}{free:Addr→Prop}{gens:Prop}{kept:Heap→Prop}(hz:s.asleep)(hgens:s.gens= #[])
  (hspec:∀args,c.pre args=true→WData.layableAll args=true→
   ∀ord:List DictEntry→List DictEntry,(∀l,(ord l).Perm l)→
   ∃vs s₁,layAllW c.records (classAt s.heap) w.params ord args s=some (vs,s₁)∧
    dQ (model c.prog w) callerA (tree vs) (λfin s'=>∃f,fin=.done f∧(c.Ends s args vs s₁ (.ok f) s'∧s'.os=s.os∧AllBare s'.gens∧kept s'.heap))
     (λe s'=>c.Ends s args vs s₁ (.error e) s'∧s'.os=s.os∧AllBare s'.gens∧kept s'.heap) s₁):
  c.CallFrom (λvs=>⟨tree vs,.builtin "claim.caller" {},default,[]⟩) w free gens kept s:=by
 intro args j9 hlay ord hord
 refine dY λG hG=>?_
 refine oA (hspec args j9 hlay ord hord) λvs s₁ hlaid hcode=>?_
 have hal:=layAllW_rest _ _ _ hlaid
 obtain⟨k,r,s',s'',zw,Mb,hfo,OG,hos,hkp⟩:=Ma (prog:=c.prog) (w:=w) (t:=tree vs) (s:=s₁)
  (R:=λr s'=>c.Ends s args vs s₁ r s'∧s'.os=s.os∧kept s'.heap)
  (Shared.asleep_of_life hal.2.2.2 hz)
  (cS hcode (by
   rintro fin s' ⟨f,e,h1,h2,h3,h4⟩
   exact⟨f,e,⟨h1,h2,h4⟩,leftWithCleanup_false_of_bare h3⟩) (by
   rintro e s' ⟨h1,h2,h3,h4⟩
   exact⟨⟨h1,h2,h4⟩,leftWithCleanup_false_of_bare h3⟩))
 obtain⟨eh,_,_,eo,_⟩:=Shared.forget_eq hfo
 replace hos:=Eq.trans eo hos
 refine hG ⟨vs,s₁,hlaid,k,_,s',Mb,?_,(λ_ i x hx=>by rw[hgens] at hx;simp at hx),(by first|exact eh▸hkp|(rw[eh] at hkp;exact hkp)|(rw[←eh] at hkp;exact hkp)),by rw[((runN_life _ _ _ zw).trans hal.2.2.2)],Shared.rest_eq hos⟩
 clear zw
 rcases(OG.congr eh) with⟨v,rfl,d1,d2,d3,d4,d5⟩|⟨e,ob,cls,rfl,d1,d2,d3,d4,d5⟩
 ·exact .inl ⟨v,rfl,d1,d2,d3,λb o y _=>d4 b o y,d5⟩
 ·exact .inr ⟨e,ob,cls,rfl,d1,d2,d3,d4,λb o y _=>d5 b o y⟩
theorem DG{r:RowW}{run:Value→List Value→Sem Value}{tree:List Value→Sem Fin}{q:Program}{ji defs kps:List Str}{writes:Bool}{Xt:Shared→Bool}{XP:(Str→Option Value)→Heap→Prop}{α:Type}{Yf:Shared→α}{Ya:World→α}{YP:World→Heap→Prop}{N:Nat}
  (left:LeftO r.prog q ji Xt Yf Ya N)(hY:∀w s,Yf s=Ya w→YP w s.heap)(hYk:∀w h h',YP w h→(∀b o,h.get? b=some o→h'.get? b=some o)→YP w h')(hX:∀s,Xt s=true→XP (s.heap.nsMap mainGlobals) s.heap)(hXk:∀mg h h',XP mg h→(∀b o,h.get? b=some o→h'.get? b=some o)→XP mg h')
  (hRf:∀s,Xt s=true→RecFacts r.records s.heap)(hwr:(!writes||r.records.isEmpty)=true)(ok:(chainsOk q&&opensWell r.prog&&(frees r&&r.within.isEmpty))=true)(hb:r.prog.bare)(hw:r.promised)
  (ht:∀vs(w:World)(s:Shared) mg f(Q:Fin→Shared→Prop)(E:Value→Shared→Prop),s.heap.Ns mainGlobals mg→mg r.name=some f→dQ (model r.prog w) callerA (run f vs) (λv s'=>Q (.done (.ret v)) s') E s→dQ (model r.prog w) callerA (tree vs) Q E s)
  (pin:∀w s,s.heap.isNs mainGlobals=true→Ground q ji [] XP w s (s.heap.nsMap mainGlobals) (s.heap.nsMap builtinsNs) s.heap→∀n∈defs,isTheDefsW r.prog s.heap n)
  (call:∀(w:World)(s₀ s₁:Shared)(mg mb:Str→Option Value),Ground q ji r.records XP w s₀ mg mb s₁.heap→YP w s₁.heap→∀(args:List WData)(vs:List Value)(as:List Addr),
   r.claim.pre args=true→WData.layableAll args=true→Laid r.records w s₀ s₁ args vs as→sysModules<s₀.heap.objs.size→∃f,mg r.name=some f∧
    dQ (model r.prog w) callerA (run f vs) (λv s'=>GoodWG r.claim (classAt s₀.heap) (ExcName.means s₀.heap) args s₁ (.ok (.ret v)) s')
     (λe s'=>GoodWG r.claim (classAt s₀.heap) (ExcName.means s₀.heap) args s₁ (.error e) s') s₁):r.claim.HoldsOpenBy (λvs=>⟨tree vs,.builtin "claim.caller" {},default,[]⟩) defs kps writes:=by
 refine dF (bZ ok) λok k5=>?_
 refine dF (bZ ok) λhch o1=>?_
 refine dF (bZ k5) λk5 k6=>?_
 refine CG (frees_parts k5) λhsame hu ha hap hm=>?_
 refine⟨⟨hb,o1,by show r.makers.map _=[];rw[hm];rfl⟩,hw.witness,λw=>⟨(left.behind hX hch w).1,λs' jF=>?_⟩⟩
 refine dY λG hG=>?_
 obtain⟨s₀,hf,XR,s,hT,hz,hgens,hg,DH,y⟩:=(left.behind (XP:=λmg h=>XP mg h∧RecFacts r.records h) (λs hs=>⟨hX s hs,hRf s hs⟩) hch w).2 s' jF
 refine hG ?_
 have G0:Ground q ji [] XP w s (s.heap.nsMap mainGlobals) (s.heap.nsMap builtinsNs) s.heap:=⟨DH.T,DH.B,DH.D,DH.TE,DH.TD,DH.W,DH.X.1,DH.cls,DH.has,DH.apart,DH.once,DH.K⟩
 have RF:=DH.X.2
 have U5:=hT
 refine⟨s₀,hf,XR,s,hT,pin w s hg G0,RF.1,RF.2.1,?_⟩
 have hgens:s.gens= #[]:=Array.eq_empty_of_size_eq_zero (cz hgens)
 have G:Ground q ji r.records XP w s _ _ s.heap:=RF.ground G0
 refine Bc (c:=r.claim) hz hgens λargs j9 hlay ord hord=>?_
 obtain⟨⟨vs,s₁⟩,hlaid⟩:=Option.isSome_iff_exists.mp (layAllW_isSome (P:=w.params) (ord:=ord) G.has args r.args s (pre_splitW j9).1)
 have keeps:=layAllW_keeps _ _ _ hlaid
 have hal:=layAllW_rest _ _ _ hlaid
 refine gC (reads_layAllW hord _ _ _ hlaid hlay s₁.heap (λ_ _ e=>e)) λas hrd hin hold=>?_
 have L:Laid r.records w s s₁ args vs as:=⟨⟨ord,hord,hlaid⟩,hrd,hin,hold,keeps,hal.1.trans hgens,hal.2.2.1⟩
 have G₁:=G.keeps hXk keeps
 refine aA (call w s s₁ _ _ G₁ (hYk _ _ _ (hY w s y) keeps) args vs as j9 hlay L G.low) λf hf h=>?_
 have hi:=ident_freeW hu ha hap
 have hwi:r.claim.within=[]:=List.isEmpty_iff.mp k6
 exact⟨vs,s₁,hlaid,ht vs w s₁ _ f _ _ G₁.T.g hf (cS h (λv s' g=>⟨_,rfl,have z:=g.laid (c:=r.claim) hsame hwi hi L;⟨z.1,z.2.1,z.2.2,λq=>⟨namesKept_of U5 hg kps keeps g.2.1.old,noTable hwr q⟩⟩⟩) λe s' g=>have z:=g.laid (c:=r.claim) hsame hwi hi L;⟨z.1,z.2.1,z.2.2,λq=>⟨namesKept_of U5 hg kps keeps g.2.1.old,noTable hwr q⟩⟩)⟩
noncomputable def OH(q:Program)(ji:List Str)(XP:(Str→Option Value)→Heap→Prop)(YP:World→Heap→Prop)(r:RowW)(d:DefRec)(kwd:List (Str × Expr))(run:Value→List Value→Sem Value):Prop:=
 ∀(w:World)(s₀ s₁:Shared)(mg mb:Str→Option Value),Ground q ji r.records XP w s₀ mg mb s₁.heap→YP w s₁.heap→∀(a:Addr)(o:Obj)(pm cd doc dV kV:Value),s₁.heap.get? a=some o→
  o.data=.func {docDef d.name d.params d.body d.scope pm cd doc with defaults:=dV,kwdefaults:=kV}→s₁.heap.CodeRec cd d.name→Dflts mg s₁.heap d.params kwd dV kV→mg d.name=some (.ref a)→s₁.gens= #[]→
  ∀(args:List WData)(vals:List Value)(as:List Addr),r.claim.pre args=true→WData.layableAll args=true→ReadsAllW r.records (classAt s₀.heap) s₁.heap vals args as→WellAll w.params s₁.heap vals args→(∀a∈as,(a==sysModules)=false)→
   dQ (model r.prog w) callerA (run (.ref a) vals) (λv s'=>GoodWG r.claim (classAt s₀.heap) (ExcName.means s₀.heap) args s₁ (.ok (.ret v)) s')
    (λe s'=>GoodWG r.claim (classAt s₀.heap) (ExcName.means s₀.heap) args s₁ (.error e) s') s₁
theorem zx{r:OpenRow}{q:Program}{ji:List Str}{Xt:Shared→Bool}{XP:(Str→Option Value)→Heap→Prop}{α:Type}{Yf:Shared→α}{Ya:World→α}{YP:World→Heap→Prop}{d:DefRec}{kwd:List (Str × Expr)}{N:Nat}
  (left:LeftO r.prog q ji Xt Yf Ya N)(hY:∀w s,Yf s=Ya w→YP w s.heap)(hYk:∀w h h',YP w h→(∀b o,h.get? b=some o→h'.get? b=some o)→YP w h')
  (hX:∀s,Xt s=true→XP (s.heap.nsMap mainGlobals) s.heap)(hXk:∀mg h h',XP mg h→(∀b o,h.get? b=some o→h'.get? b=some o)→XP mg h')
  (hdef:defOf q r.name=some (d,kwd))(hp:r.prog.theDef r.name=some (d.params,d.body,d.scope))(hk:kwWritten? d.params.kwonlyargs d.params.kw_defaults=some kwd)(hRf:∀s,Xt s=true→RecFacts r.records s.heap)(hwr:(!r.writes||r.records.isEmpty)=true)
  (k1:r.wellSaid=true)(ok:(chainsOk q&&opensWell r.prog&&(frees r.toRowW&&r.within.isEmpty))=true)(hb:r.prog.bare)(hw:r.toRowW.promised)
  (call:OH q ji XP YP r.toRowW d kwd λf vs=>_root_.PySem.call f vs):r.Holds:=by
 refine⟨k1,hw,DG (r:=r.toRowW) (run:=λf vs=>_root_.PySem.call f vs) (tree:=λvs=>do match ←nsGet mainNs r.name with
   |some f=>do ret (←_root_.PySem.call f vs)
   |none=>unsupported "claim.caller:no-such-global") left hY hYk hX hXk hRf hwr ok hb hw
  (λvs w s mg f Q E hg hf h=>aF (wpAny_nsGet hg (by rw[hf];exact bz (cS h (λ_ _ x=>aY x) λ_ _ x=>x))))
  (λw s hg G n hn=>?_) λw s₀ s₁ mg mb G Y args vs as j9 hlay L low=>?_⟩
 ·obtain rfl:n=r.name:=by split at hn<;>simp_all
  exact pinned_of_view hg G hdef hp hk
 ·obtain⟨a,o,pm,cd,doc,dV,kV,h1,h2,h3,h4,h5⟩:=G.fn hdef
  exact⟨.ref a,h1,call w s₀ s₁ mg mb G Y a o pm cd doc dV kV h2 h3 h4 h5 (defOf_name hdef▸h1) L.gens args vs as j9 hlay L.reads L.well (L.low low)⟩
open PySem PySem.W PySem.Calls PyProof.Rows
noncomputable section
theorem mod2(i:Nat):Nat.mod i 2=0∨Nat.mod i 2=1:=Nat.mod_two_eq_zero_or_one i
theorem pX:∀(t:BT)(i:Nat),yh t i=t.get i
 | .nil,_=>rfl
 | .node v l r,0=>rfl
 | .node v l r,i+1=>by
  rw[BT.get_node,aB (Nat.succ_ne_zero i)]
  refine(?_:(Nat.rec (motive:=λ_=>Option Obj) (yh r (Nat.sub (Nat.div (i+1) 2) 1)) (λ_ _=>yh l (Nat.div (i+1) 2)) (Nat.mod (i+1) 2):Option Obj)=_)
  rcases mod2 (i+1) with h|h
  ·refine ay h (ay (aB (show¬(i+1)%2=1 from λe=>by rw[show(i+1)%2=0 from h] at e;cases e)) (?_))
   exact pX r _
  ·refine ay h (ay (aC (show(i+1)%2=1 from h)) (?_))
   exact pX l _
theorem xE(f:Obj→Obj):∀(t:BT)(i:Nat),CE t i f=t.set i f
 | .nil,_=>rfl
 | .node v l r,0=>rfl
 | .node v l r,i+1=>by
  rw[BT.set_node,aB (Nat.succ_ne_zero i)]
  refine(?_:(Nat.rec (motive:=λ_=>BT) (.node v l (CE r (Nat.sub (Nat.div (i+1) 2) 1) f)) (λ_ _=> .node v (CE l (Nat.div (i+1) 2) f) r) (Nat.mod (i+1) 2):BT)=_)
  rcases mod2 (i+1) with h|h
  ·refine ay h (ay (aB (show¬(i+1)%2=1 from λe=>by rw[show(i+1)%2=0 from h] at e;cases e)) (?_))
   exact aj (BT.node v l) (xE f r _)
  ·refine ay h (ay (aC (show(i+1)%2=1 from h)) (?_))
   exact aj (BT.node v · r) (xE f l _)
theorem xF(o:Obj):∀(t:BT)(i:Nat),Ab t i o=t.ins i o
 | .nil,_=>rfl
 | .node v l r,0=>rfl
 | .node v l r,i+1=>by
  rw[BT.ins_node,aB (Nat.succ_ne_zero i)]
  refine(?_:(Nat.rec (motive:=λ_=>BT) (.node v l (Ab r (Nat.sub (Nat.div (i+1) 2) 1) o)) (λ_ _=> .node v (Ab l (Nat.div (i+1) 2) o) r) (Nat.mod (i+1) 2):BT)=_)
  rcases mod2 (i+1) with h|h
  ·refine ay h (ay (aB (show¬(i+1)%2=1 from λe=>by rw[show(i+1)%2=0 from h] at e;cases e)) (?_))
   exact aj (BT.node v l) (xF o r _)
  ·refine ay h (ay (aC (show(i+1)%2=1 from h)) (?_))
   exact aj (BT.node v · r) (xF o l _)
theorem Gh(den:Code→Sem Fin)(p:Program)(w:World)(s:SharedT)(t:Thread):Em den p w s t=stepT den p w s t:=by
 have e1:yh=BT.get:=funext λt=>funext (pX t)
 have e2:CE=BT.set:=funext λt=>funext λa=>funext λf=>xE f t a
 have e3:(λT n o=>Ab T n o)=λT n o=>T.ins n o:=funext λt=>funext λn=>funext λo=>xF o t n
 show JU yh CE (λT n o=>Ab T n o) den p w s t=_
 rw[e1,e2,e3]
 rfl
theorem zy(g:Nat→Obj):∀n i:Nat,JV g n i=(List.range' i n).map g
 |0,_=>rfl
 |n+1,i=>aj (g i:: ·) (zy g n (i+1))
theorem II(t:BT)(i:Nat):HJ t i=(t.get i).getD default:=by
 unfold HJ
 rw[pX]
 cases t.get i<;>rfl
theorem B5(s:SharedT):iu s=s.abs:=by
 unfold iu SharedT.abs absHeap BT.list
 rw[zy,List.range_eq_range',show HJ s.tree=λi=>(s.tree.get i).getD default from funext (II s.tree)]
theorem Mc{s:SharedT}{a:Nat}{x:Addr × Obj}(h:Qu s a=some x):s.abs.heap.get? a=some x.2∧x.1=a:=by
 unfold Qu at h
 cases e:Nat.blt a s.n with
 |false=>rw[e] at h;cases h
 |true=>
  replace h:=(e)▸h
  dsimp only at h
  rw[pX] at h
  cases g:s.tree.get a with
  |none=>rw[g] at h;cases h
  |some o=>
   replace h:=(g)▸h
   dsimp only at h
   cases al:alive o with
   |none=>rw[al] at h;cases h
   |some o'=>rw[al] at h;cases h;exact⟨(abs_get (aD e) g).trans al,rfl⟩
theorem t9(s:SharedT):∀as:List Nat,(yi s as).In s.abs.heap
 | []=>λa o e=>nomatch e
 |b::as=>λa o e=>by
  unfold yi at e
  rw[List.filterMap_cons] at e
  cases hb:Qu s b with
  |none=>rw[hb] at e;exact t9 s as a o e
  |some x=>
   rw[hb] at e
   obtain⟨a',o'⟩:=x
   refine dF (Mc hb) λh1 h2=>?_
   dsimp only at e h1 h2
   subst h2
   replace e:=(List.lookup_cons).symm.trans e
   cases q:a==a' with
   |true=>rw[q] at e;cases e;rw[cz q];exact h1
   |false=>rw[q] at e;exact t9 s as a o e
section
variable (tb:String→Option Builtin) (p:Program) (w:World) (n₀:Nat) (ann:Option Value)
theorem B6:∀{n:Nat}{s s':SharedT}{t:Thread},CF tb p w n₀ ann n s t=some s'→topRun tb p w n₀ ann n s.abs t=some s'.abs
 |0,_,_,_,h=>nomatch h
 |n+1,s,s',t,h=>by
  unfold CF at h
  unfold topRun
  cases ht:through t with
  |true=>rw[ht] at h;cases h;rfl
  |false=>
   replace h:=(ht)▸h
   cases hk:stepOk n₀ ann t with
   |false=>rw[hk] at h;cases h
   |true=>
    replace h:=(hk)▸h
    cases hs:Em (denote tb) p w s t with
    |none=>rw[hs] at h;cases h
    |some r=>obtain⟨s₂,t₂⟩:=r;rw[hs] at h;dsimp only;rw[stepT_spec ((Gh _ _ _ _ _).symm.trans hs)];exact B6 h
end
theorem boot_abs(w:World):absHeap (Ac .nil 0 (boot_heap w.params).objs.toList) (boot_heap w.params).objs.toList.length (boot_heap w.params).life=boot_heap w.params:=by kernel_rfl
theorem at_of{α β:Type}{x:Option α}{f:α→β}{b:β}{s:α}(h:x.map f=some b)(e:x=some s):f s=b:=by
 rw[e] at h
 exact aX h
theorem IJ{p q:Program}{ji:List Str}{Xt:Shared→Bool}{YP:Heap→Prop}{N m₀:Nat}{ann:Option Value}
  (open_:∀w:World,(fencedOpening treeTable p w N).map (λs=>(s.heap,s.gens,s.drawn,s.toks))=some (boot_heap w.params, #[],boot_drawn,boot_toks))
  (size:∀w:World,((boot_heap w.params).isNs mainGlobals,(boot_heap w.params).objs.size,(boot_heap w.params).nsMap mainGlobals "__annotations__")=(true,m₀,ann))
  (run:∀(w:World)(os:OsState),(CF treeTable p w m₀ ann N (BG w os) (topStub p)).map (λs=>(staticsOk (importedModules p.main.body) (boot_heap w.params) (iu s).heap&&namesBound p (iu s).heap&&gensDone (iu s)&&laidKept (boot_heap w.params) (iu s).heap))=some true)
  (seen:∀(w:World)(os:OsState)(s:SharedT),CF treeTable p w m₀ ann N (BG w os) (topStub p)=some s→openSeen q ji (importedModules p.main.body) Xt true (iu s)=openGood q ji∧YP (iu s).heap):
  LeftO p q ji Xt (λs=>YP s.heap) (λ_=>True) N true:=λw=>by
 refine dY λG hG=>?_
 obtain⟨⟨h,gs,d,k,os⟩,e,e'⟩:=Option.map_eq_some_iff.mp (open_ w)
 refine sJ (by simpa using e':h=boot_heap w.params∧gs= #[]∧d=boot_drawn∧k=boot_toks) λLf bP cW yJ=>?_
 clear e'
 subst Lf bP cW yJ
 refine gj (by simpa only[Prod.mk.injEq] using size w:_∧_∧_) λz1 z2 z3=>?_
 refine aA (Option.map_eq_some_iff.mp (run w os)) λs r l1=>?_
 refine dF (seen w os s r) λl2 l3=>?_
 refine hG ?_
 have r:=B6 _ _ _ _ _ r
 rw[B5] at l1 l2 l3
 have b:(BG w os).abs=⟨boot_heap w.params, #[],boot_drawn,boot_toks,os⟩:=aj (λh=>(⟨h, #[],boot_drawn,boot_toks,os⟩:Shared)) (boot_abs w)
 rw[b] at r
 have t:topFrom treeTable p w N ⟨boot_heap w.params, #[],boot_drawn,boot_toks,os⟩=some s.abs:=by
  unfold topFrom
  refine ay z1 (ay z2 (ay z3 (ay r (?_))))
  refine(?_:(match staticsOk (importedModules p.main.body) (boot_heap w.params) s.abs.heap&&namesBound p s.abs.heap&&gensDone s.abs&&laidKept (boot_heap w.params) s.abs.heap with|true=>_|false=>_)=_)
  exact ay l1 (rfl)
 unfold openEnds
 refine ay e (?_)
 refine(?_:(topFrom treeTable p w N _).map _=_)
 refine ay t (?_)
 exact aj some (Prod.ext l2 (eq_true l3))
end
end Mine.Top
namespace Mine
open PySem PySem.W PySem.Calls PyProof.Rows
theorem IK:∀c,bootBuiltins (iz c)=some (BJ c):=by
 intro c
 cases c<;>kernel_rfl
theorem IL:∀c,iz c≠("__name__":Str):=by
 intro c
 cases c<;>decide+kernel
theorem Me:((List.range aO.length).all λn=>(PyData.str (NM n)).canLay0)=true:=by kernel_rfl
noncomputable def ua:List Str→Bool
 | []=>true
 |a::r=>(r.all λb=>decide (a≠b))&&ua r
theorem Gi:ua ((List.range aO.length).map NM)=true:=by kernel_rfl
theorem xG{l:List Str}:ua l=true→l.Nodup:=by
 induction l with
 |nil=>exact λ_=>List.nodup_nil
 |cons a r ih=>exact λh=>List.nodup_cons.mpr ⟨λhm=>dw (iP (aL h) a hm) rfl,ih (aR h)⟩
theorem Mf(a b:Nat)(ha:a<aO.length)(hb:b<aO.length)(e:NM a=NM b):a=b:=by
 have l:((List.range aO.length).map NM).length=aO.length:=rfl
 exact(List.getElem_inj (h₀:=by rw[l];exact ha) (h₁:=by rw[l];exact hb) (xG Gi) (i:=a) (j:=b)).mp (by simpa using e)
section
variable {prog:Program} {w:World} {mg mb:Str→Option Value} {h0:Heap} {ji:List Str} {mean:ExcName→Option Value} {p:Program} {D8:OsState} {K:Frag}
noncomputable abbrev XX(prog:Program)(w:World)(h0:Heap)(D8:OsState)(K:Frag):Ctx:={prog,w,K:=K,FA:=FA,CA:=CA,NM:=NM,h0,D8}
theorem Gj(h:qo K=true){f:Nat}(hf:f<68):Ux K f=true:=iP (Cx h) f (List.mem_range.mpr hf)
theorem B7(h:qo K=true){f:Nat}{d:FD}(e:fns[f]? =some d):jB NM K (FA f) d=true:=
 (aj (Option.elim · true (jB NM K (FA f))) e).symm.trans (aL (Gj h ((eY e).1)))
theorem B8(hK:qo K=true)(prog:Program)(w:World)(h0:Heap)(D8:OsState)(c:Nat)(hc:c∈lI):J6 (XX prog w h0 D8 K) c:=
 have h:NK K c=true:=iP (sd hK) c hc
 ⟨dw (KN h),dw (CB h),Cz h,Cy h,z7 h,dw (sd h),dw (nO h),gz h,λa ha=>dw (iP (aR h:bW.all (λa=>decide (findIn K (.ref (CA c)) (NM a)=some none))=true) a ha)⟩
theorem DI(hK:qo K=true)(prog:Program)(w:World)(h0:Heap)(D8:OsState):Keeps (XX prog w h0 D8 K):=
 ⟨λf hf=>aR (Gj hK hf),λc hc=>(B8 hK prog w h0 D8 c hc).keep⟩
theorem zA(hK:qo K=true):nsFind (oz K) (Str.ofString "law")=some (.ref (FA 67)):=dw (aR hK)
theorem Kg(hK:qo K=true)(KX:K.In h0)(hn:h0.Ns mainGlobals mg)(x:Str):mg x=nsFind (oz K) x:=by
 refine jN hn λo es ep ho hd _ hm=>?_
 have hl:=zA hK
 unfold oz at hl⊢
 cases q:K.lookup mainGlobals with
 |none=>rw[q] at hl;exact fY hl
 |some o'=>
  obtain rfl:=sU ho (KX _ _ q)
  exact(hm x).symm.trans (aj (λd=>nsFind (En d) x) hd).symm
theorem Mg(hK:qo K=true){fa:Addr}(e:nsFind (oz K) (Str.ofString "law")=some (.ref fa)):fa=FA 67:=Value.ref.inj (sU e (zA hK))
theorem Gk{X:Ctx}(hF:X.FA=FA)(hC:X.CA=CA){o:Option Value}{v:V}{h:Heap}(e:Eo o v=true):∃x,o=some x∧VR X [] h v x:=by
 cases v<;>first|exact nB e|skip
 ·exact aA (zk e) λy e1 e2=>⟨y,e1,Value.isInt_shape e2⟩
 ·exact⟨_,dw e,hF▸rfl⟩
 ·exact⟨_,dw (aL e),hC▸rfl,List.contains_iff_mem.mp (aR e)⟩
theorem IM(hK:qo K=true)(KX:K.In h0)(T:Top p ji mean mg mb h0):bE (XX prog w h0 D8 K) mg mb:=by
 have hg:=Kg hK KX T.g
 refine⟨KX,T.g,T.b,T.nolimit,λn v hm=>?_,λc=>⟨(hg _).trans (Option.isNone_iff_eq_none.mp (iP (gz hK) c (by cases c<;>decide))),(T.builtins _ (IL c)).trans (IK c)⟩,
  λn v hm l e=>?_,λn hn=>iP Me n (List.mem_range.mpr hn),B8 hK _ _ _ _,Mf⟩
 ·have h1:JW K (n,v)=true:=iP (nO hK) _ hm
  exact(hg (NM n)).symm▸Gk (X:=XX prog w h0 D8 K) rfl rfl h1
 subst e
 exact nB (iP sH _ hm)
end
end Mine
namespace Mine.Top
open _root_.PySem _root_.PySem.W _root_.PySem.Calls PyProof.Rows
theorem sz:∀w:World,((boot_heap w.params).isNs mainGlobals,(boot_heap w.params).objs.size,(boot_heap w.params).nsMap mainGlobals "__annotations__")=(true,11,some (.ref 6)):=λw=>by kernel_rfl
theorem map_fst{α β γ:Type}{x:Option α}{f:α→β}{g:α→γ}{b:β}{c:γ}(h:x.map (λs=>(f s,g s))=some (b,c)):x.map f=some b:=by
 cases x with
 |none=>cases h
 |some a=>exact aj some (Prod.mk.inj (aX h)).1
theorem left:LeftO lw qv lN xt (λs=>∃K:Frag,K.In s.heap∧qo K=true) (λ_=>True) 7436 true:=IJ (YP:=λh=>∃K:Frag,K.In h∧qo K=true) op sz (λw os=>map_fst (Uy w os)) λw os s e=>by
 have h1:=at_of (Uy w os) e
 obtain⟨_,h1⟩:=Prod.mk.inj h1
 obtain⟨h1,h3⟩:=Prod.mk.inj h1
 have sn:=at_of (WW w os) e
 have tb:=at_of (WX w os) e
 have h3:=Rn (at_of (WY w os) e) h3
 have h4:=at_of (WZ w os) e
 obtain⟨b,h1⟩:=Prod.mk.inj h1
 obtain⟨pD,h1⟩:=Prod.mk.inj h1
 obtain⟨XS,cl⟩:=Prod.mk.inj h1
 obtain⟨XT,wd⟩:=Prod.mk.inj h4
 exact⟨Prod.ext sn (Prod.ext b (Prod.ext h3 (Prod.ext tb (Prod.ext pD (Prod.ext XT (Prod.ext XS (Prod.ext wd cl))))))),yi s Qv,(B5 s)▸t9 s Qv,at_of (f:=λs=>qo (yi s Qv)) (W0 w os) e⟩
end Mine.Top
namespace Mine.L
noncomputable abbrev Call:=Nat→List V→aa→Option (V × aa)
noncomputable def outF:Option (Fl × Env × aa)→Option (V × aa)
 |some (.ret v,_,τ)=>some (v,τ)
 |some (.next,_,τ)=>some (.none,τ)
 |_=>none
theorem xH{n f:Nat}(d:FD){vs:List V}(ρ:Env){σ:aa}(h:P0 f=some d)(hb:kI d vs=some ρ):af P0 (n+1) f vs σ=outF (aP (af P0 n) ρ d.body σ):=by
 simp only[af,h,Option.bind_some,hb]
 cases aP (af P0 n) ρ d.body σ with
 |none=>rfl
 |some x=>obtain⟨fl,ρ',τ⟩:=x;cases fl<;>rfl
noncomputable def In(i:Nat)(l:aa):Prop:=i<l.length
theorem In.of{i:Nat}{l:aa}{o:O}(h:l[i]? =some o):In i l:=(eY h).1
@[scoped simp] theorem Mh(i j:Nat)(l:aa)(o:O):In i (l.set j o)=In i l:=by simp[In]
@[scoped simp] theorem Sd(i:Nat)(l m:aa)(h:In i l):In i (l++m):=by simp only[In,eG] at*;exact ltN [_,_,_] 1 vA (.add vB vC) [.s 1 vA vB] aI h
@[scoped simp] theorem cM(i:Nat)(l:aa)(o:O)(h:In i l):(l.set i o)[i]? =some o:=by simp only[In] at h;simp[h]
@[scoped simp] theorem bh(i j:Nat)(l:aa)(o:O)(h:i≠j):(l.set i o)[j]? =l[j]? :=by simp[h]
@[scoped simp] theorem fz(i:Nat)(l m:aa)(h:In i l):(l++m)[i]? =l[i]? :=by simp only[In] at h;simp[List.getElem?_append_left h]
@[scoped simp] theorem OI(a:Option V)(r:List (Option V)):(a::r)[0]? =some a:=rfl
@[scoped simp] theorem OJ(a:Option V)(r:List (Option V))(n:Nat):(a::r)[n+1]? =r[n]? :=rfl
@[scoped simp] theorem lu(i:Nat)(l:aa)(o:O)(h:i=l.length):(l++[o])[i]? =some o:=by subst h;simp
@[scoped simp] theorem fh(i:Nat)(l:aa)(o o':O)(h:i=l.length):(l++[o]).set i o'=l++[o']:=by subst h;simp
@[scoped simp] theorem xJ(i:Nat)(l m:aa)(o':O)(h:In i l):(l++m).set i o'=l.set i o'++m:=by simp only[In] at h;simp[List.set_append,h]
@[scoped simp] theorem IP(i:Nat)(l:aa)(o:O)(h:i=l.length):In i (l++[o]):=by subst h;simp[In]
theorem In.ne{i:Nat}{l:aa}(h:In i l):i≠l.length:=by simp only[In] at h;exact λbT=>bO [_,_] [.s 1 vA vB,.f 1 vA vB] aI h bT
section
variable (call:Call)
noncomputable def OL(n:Nat):V × aa→Option (V × aa):=λ(v,σ)=>(CI v n σ).map λu=>(u,σ)
noncomputable def Gl(v:V):V × aa→Option (V × aa):=λ(j,σ)=>(cH v j σ).map λu=>(u,σ)
noncomputable def OM(ρ:Env)(i:ME):V × aa→Option (V × aa):=λ(v,σ)=>(aH call ρ i σ).bind (Gl v)
noncomputable def ON(v a:V):V × aa→Option (V × aa):=λ(b,σ)=>(HP v a b).map λu=>(u,σ)
noncomputable def OP(ρ:Env)(hi:ME)(v:V):V × aa→Option (V × aa):=λ(a,σ)=>(aH call ρ hi σ).bind (ON v a)
noncomputable def XU(ρ:Env)(lo hi:ME):V × aa→Option (V × aa):=λ(v,σ)=>(aH call ρ lo σ).bind (OP call ρ hi v)
noncomputable def OQ(v:V):V × aa→Option (V × aa):=λ(a,σ)=>(Na v a).map λu=>(u,σ)
noncomputable def XW(ρ:Env)(lo:ME):V × aa→Option (V × aa):=λ(v,σ)=>(aH call ρ lo σ).bind (OQ v)
noncomputable def OS(v:V):V × aa→Option (V × aa):=λ(b,σ)=>(NX v b).map λu=>(u,σ)
noncomputable def XY(ρ:Env)(lo:ME):V × aa→Option (V × aa):=λ(v,σ)=>(aH call ρ lo σ).bind (OS v)
noncomputable def U6(c l:Nat):V × aa→Option (V × aa):=λ(r,τ)=>match r with| .none=>some (.loc l,τ)|_=>none
noncomputable def Bd(f:V):List V × aa→Option (V × aa):=λ(vs,σ)=>match f with
  | .fn f=>call f vs σ
  | .cl c=>(call c (.loc σ.length::vs) (σ++[.inst c []])).bind (U6 c σ.length)
  |_=>none
noncomputable def Kh(ρ:Env)(args:List ME):V × aa→Option (V × aa):=λ(f,σ)=>(jU call ρ args σ).bind (Bd call f)
noncomputable def eB(b:Bi):V × aa→Option (V × aa):=λ(v,σ)=>(dJ b v σ).map λu=>(u,σ)
noncomputable def Kl(v:V):V × aa→Option (V × aa):=λ(k,σ)=>(qX v k σ).map λu=>(u,σ)
noncomputable def Se(ρ:Env)(k:ME):V × aa→Option (V × aa):=λ(v,σ)=>if oE v σ then(aH call ρ k σ).bind (Kl v) else none
noncomputable def Km(v:V):V × aa→Option (V × aa):=λ(u,σ)=>(lO v u σ).map λσ=>(.none,σ)
noncomputable def Sf(ρ:Env)(y:ME):V × aa→Option (V × aa):=λ(v,σ)=>if mH v σ then(aH call ρ y σ).bind (Km v) else none
noncomputable def Kn(op:Op)(v:V):V × aa→Option (V × aa):=λ(u,σ)=>(jq op v u).map λr=>(r,σ)
noncomputable def Sg(ρ:Env)(op:Op)(b:ME):V × aa→Option (V × aa):=λ(v,σ)=>(aH call ρ b σ).bind (Kn op v)
noncomputable def Sh:V × aa→Option (V × aa):=λ(v,σ)=>match v with| .int i=>some (.int (-i),σ)|_=>none
noncomputable def Sj:V × aa→Option (V × aa):=λ(v,σ)=>(dB v).map λb=>(.bool (!b),σ)
noncomputable def B9(op:Cm)(v:V):V × aa→Option (V × aa):=λ(u,σ)=>(cX op v u σ).map λr=>(.bool r,σ)
noncomputable def Sk(ρ:Env)(op:Cm)(b:ME):V × aa→Option (V × aa):=λ(v,σ)=>(aH call ρ b σ).bind (B9 op v)
noncomputable def Mi(ρ:Env)(u:V)(o2:Cm)(c:ME)(σ:aa):Bool→Option (V × aa):=λr=>if r then(aH call ρ c σ).bind (B9 o2 u) else some (.bool false,σ)
noncomputable def Mj(ρ:Env)(o1:Cm)(v:V)(o2:Cm)(c:ME):V × aa→Option (V × aa):=λ(u,σ)=>(cX o1 v u σ).bind (Mi call ρ u o2 c σ)
noncomputable def U7(ρ:Env)(o1:Cm)(b:ME)(o2:Cm)(c:ME):V × aa→Option (V × aa):=λ(v,σ)=>(aH call ρ b σ).bind (Mj call ρ o1 v o2 c)
noncomputable def Gm(ρ:Env)(a b:ME)(σ:aa):Bool→Option (V × aa):=λc=>if c then aH call ρ a σ else aH call ρ b σ
noncomputable def OT(ρ:Env)(a b:ME):V × aa→Option (V × aa):=λ(v,σ)=>(dB v).bind (Gm call ρ a b σ)
noncomputable def XZ:V × aa→Option (V × aa):=λ(v,σ)=>match v with
  | .lst []=>some (.lst [],σ)
  |_=>none
noncomputable def X0(v:V):List V × aa→List V × aa:=λ(vs,σ)=>(v::vs,σ)
noncomputable def eL(ρ:Env)(r:List ME):V × aa→Option (List V × aa):=λ(v,σ)=>(jU call ρ r σ).map (X0 v)
noncomputable def Sl(ρ:Env)(r:List ME)(v:V)(σ:aa):Bool→Option (V × aa):=λb=>if b then u6 call ρ r σ else some (v,σ)
noncomputable def eA(ρ:Env)(r:List ME):V × aa→Option (V × aa):=λ(v,σ)=>(dB v).bind (Sl call ρ r v σ)
noncomputable def Sm(ρ:Env)(r:List ME)(v:V)(σ:aa):Bool→Option (V × aa):=λb=>if b then some (v,σ) else u9 call ρ r σ
noncomputable def eO(ρ:Env)(r:List ME):V × aa→Option (V × aa):=λ(v,σ)=>(dB v).bind (Sm call ρ r v σ)
theorem OU(ρ:Env)(i:Nat)(σ:aa):aH call ρ (.var i) σ=match ρ[i]? with|some (some v)=>some (v,σ)|_=>none:=rfl
noncomputable def pB(r:List MS):Fl × Env × aa→Option (Fl × Env × aa):=λ(f,ρ,σ)=>match f with
  | .next=>aP call ρ r σ
  |f=>some (f,ρ,σ)
theorem Ko(ρ:Env)(σ:aa):aP call ρ [] σ=some (.next,ρ,σ):=rfl
theorem Mk(ρ:Env)(s:MS)(r:List MS)(σ:aa):aP call ρ (s::r) σ=(kH call ρ s σ).bind (pB call r):=rfl
theorem Ml(r:List MS)(ρ:Env)(σ:aa):pB call r (.next,ρ,σ)=aP call ρ r σ:=rfl
noncomputable def X3(ρ:Env)(x:Nat):V × aa→Fl × Env × aa:=λ(v,σ)=>(.next,ρ.set x (some v),σ)
noncomputable def X4(ρ:Env)(x d:Nat):V × aa→Option (Fl × Env × aa):=λ(v,σ)=>(j6 v ρ[d]? σ).map λ(_,vs)=>(.next,ρ.set x (some (.lst vs)),σ)
noncomputable def X5(ρ:Env)(x d:Nat):V × aa→Option (Fl × Env × aa):=λ(v,σ)=>(j6 v ρ[d]? σ).map λ(l,vs)=>(.next,ρ.set x (some (.loc σ.length)),σ++[.dict 2 (putAll [] (l.zip vs))])
noncomputable def OV(ρ:Env)(n:Nat)(v:V):V × aa→Option (Fl × Env × aa):=λ(u,σ)=>(sM u n v σ).map λτ=>(.next,ρ,τ)
noncomputable def X6(ρ:Env)(o:ME)(n:Nat):V × aa→Option (Fl × Env × aa):=λ(v,σ)=>(aH call ρ o σ).bind (OV ρ n v)
noncomputable def OW(ρ:Env)(v u:V):V × aa→Option (Fl × Env × aa):=λ(k,σ)=>(kG u k v σ).map λτ=>(.next,ρ,τ)
noncomputable def OX(ρ:Env)(k:ME)(v:V):V × aa→Option (Fl × Env × aa):=λ(u,σ)=>(aH call ρ k σ).bind (OW ρ v u)
noncomputable def X7(ρ:Env)(o k:ME):V × aa→Option (Fl × Env × aa):=λ(v,σ)=>(aH call ρ o σ).bind (OX call ρ k v)
noncomputable def X8(ρ:Env)(xs:List Nat):V × aa→Option (Fl × Env × aa):=λ(v,σ)=>match v with
  | .tup l=>(cY ρ xs l).map λρ=>(.next,ρ,σ)
  |_=>none
noncomputable def Yb(ρ:Env):V × aa→Option (Fl × Env × aa):=λ(v,σ)=>match v with| .none=>some (.next,ρ,σ)|_=>none
noncomputable def Yc(ρ:Env):V × aa→Fl × Env × aa:=λ(v,σ)=>(.ret v,ρ,σ)
noncomputable def Mm(ρ:Env)(a b:List MS)(σ:aa):Bool→Option (Fl × Env × aa):=λc=>if c then aP call ρ a σ else aP call ρ b σ
noncomputable def U8(ρ:Env)(a b:List MS):V × aa→Option (Fl × Env × aa):=λ(v,σ)=>(dB v).bind (Mm call ρ a b σ)
noncomputable def zB(x:Nat)(b:List MS)(v:V)(gm:aa)(l:List V)(ρ:Env)(σ:aa):Option (Fl × Env × aa):=g6 (λρ σ=>aP call ρ b σ) (λρ v=>some (ρ.set x (some v))) (dm v gm) l ρ σ
noncomputable def fK(x:Nat)(b:List MS)(v:V)(gm:aa)(l:List V):Fl × Env × aa→Option (Fl × Env × aa):=λ(f,ρ,σ)=>match f with
  | .brk=>some (.next,ρ,σ)
  | .ret u=>some (.ret u,ρ,σ)
  |_=>zB call x b v gm l ρ σ
noncomputable def QG(ρ:Env)(x:Nat)(b:List MS)(v:V)(σ:aa):List V→Option (Fl × Env × aa):=λl=>zB call x b v σ l ρ σ
noncomputable def fB(ρ:Env)(x:Nat)(b:List MS):V × aa→Option (Fl × Env × aa):=λ(v,σ)=>(jf v σ).bind (QG call ρ x b v σ)
noncomputable def Yd(xs:List Nat)(b:List MS)(v:V)(gm:aa)(l:List V)(ρ:Env)(σ:aa):Option (Fl × Env × aa):=g6 (λρ σ=>aP call ρ b σ) (λρ v=>match v with| .tup l=>cY ρ xs l|_=>none) (dm v gm) l ρ σ
noncomputable def U9(ρ:Env)(x:List Nat)(b:List MS)(v:V)(σ:aa):List V→Option (Fl × Env × aa):=λl=>Yd call x b v σ l ρ σ
noncomputable def gB(ρ:Env)(x:List Nat)(b:List MS):V × aa→Option (Fl × Env × aa):=λ(v,σ)=>(jf v σ).bind (U9 call ρ x b v σ)
noncomputable def OY(ρ:Env)(u:V):V × aa→Option (Fl × Env × aa):=λ(k,σ)=>(yk u k σ).map λτ=>(.next,ρ,τ)
noncomputable def Ye(ρ:Env)(k:ME):V × aa→Option (Fl × Env × aa):=λ(u,σ)=>(aH call ρ k σ).bind (OY ρ u)
theorem OZ(ρ:Env)(x:Nat)(it:ME)(b:List MS)(σ:aa):kH call ρ (.for x it b) σ=(aH call ρ it σ).bind (fB call ρ x b):=rfl
theorem Yg(ρ:Env)(x:Nat)(b:List MS)(v:V)(σ:aa):fB call ρ x b (v,σ)=(jf v σ).bind (QG call ρ x b v σ):=rfl
theorem So(ρ:Env)(x:Nat)(b:List MS)(v:V)(σ:aa)(l:List V):QG call ρ x b v σ l=zB call x b v σ l ρ σ:=rfl
theorem O0(x:Nat)(b:List MS)(v:V)(gm:aa)(ρ:Env)(σ:aa):zB call x b v gm [] ρ σ=if dm v gm σ then some (.next,ρ,σ) else none:=rfl
theorem Gn(x:Nat)(b:List MS)(v:V)(gm:aa)(u:V)(r:List V)(ρ:Env)(σ:aa):zB call x b v gm (u::r) ρ σ=if dm v gm σ then(aP call (ρ.set x (some u)) b σ).bind (fK call x b v gm r) else none:=rfl
theorem Gp(x:Nat)(b:List MS)(v:V)(gm:aa)(r:List V)(ρ:Env)(σ:aa):fK call x b v gm r (.cont,ρ,σ)=zB call x b v gm r ρ σ:=rfl
end
noncomputable def tr(v:V)(K:Bool→Prop):Prop:=match v with
 | .bool b=>K b
 |v=>∀{b},dB v=some b→K b
theorem vZ{v:V}{K:Bool→Prop}(h:∀b,dB v=some b→K b):tr v K:=by
 cases v<;>first|exact h _ rfl|exact λ{b} q=>h b q
noncomputable def isSeq(v:V)(K:List V→Prop)(N:Prop):Prop:=match v with
 | .tup l=>K l
 | .lst l=>K l
 | .rJ n=>∀{l},jf (.rJ n) []=some l→K l
 |_=>N
noncomputable def NG(bx:Env→V→Option Env)(B:Env→aa→(Fl→Env→aa→Prop)→Prop):List V→Env→aa→(Fl→Env→aa→Prop)→Prop
 | [],ρ,σ,C=>C .next ρ σ
 |u::r,ρ,σ,C=>match bx ρ u with
  |some ρ'=>B ρ' σ λf ρ τ=>match f with
   | .brk=>C .next ρ τ
   | .ret w=>C (.ret w) ρ τ
   |_=>NG bx B r ρ τ C
  |none=>True
noncomputable def NW(T:Env→aa→(Bool→aa→Prop)→Prop)(B:Env→aa→(Fl→Env→aa→Prop)→Prop):Nat→Env→aa→(Fl→Env→aa→Prop)→Prop
 |0,_,_,_=>True
 |n+1,ρ,σ,C=>T ρ σ λc σ=>match c with
  |false=>C .next ρ σ
  |true=>B ρ σ λf ρ τ=>match f with
   | .brk=>C .next ρ τ
   | .ret w=>C (.ret w) ρ τ
   |_=>NW T B n ρ τ C
section
variable (call:Call)
mutual
noncomputable def NE(ρ:Env):ME→aa→(V→aa→Prop)→Prop
 | .lit v,σ,C=>C v σ
 | .var i,σ,C=>match ρ[i]? with|some (some v)=>C v σ|_=>True
 | .glob _ v,σ,C=>C v σ
 | .attr e n,σ,C=>NE ρ e σ λv σ=>∀{u},CI v n σ=some u→C u σ
 | .item e i,σ,C=>NE ρ e σ λv σ=>NE ρ i σ λj σ=>∀{u},cH v j σ=some u→C u σ
 | .slice e lo hi,σ,C=>NE ρ e σ λv σ=>NE ρ lo σ λa σ=>NE ρ hi σ λb σ=>∀{u},HP v a b=some u→C u σ
 | .lH e lo,σ,C=>NE ρ e σ λv σ=>NE ρ lo σ λa σ=>∀{u},Na v a=some u→C u σ
 | .j3 e hi,σ,C=>NE ρ e σ λv σ=>NE ρ hi σ λa σ=>∀{u},NX v a=some u→C u σ
 | .call f args,σ,C=>NE ρ f σ λf σ=>NL ρ args σ λvs σ=>match f with
  | .fn f=>∀{u τ},call f vs σ=some (u,τ)→C u τ
  | .cl c=>∀{τ},call c (.loc σ.length::vs) (σ++[.inst c []])=some (.none,τ)→C (.loc σ.length) τ
  |_=>True
 | .bH b _ e,σ,C=>NE ρ e σ λv σ=>∀{u},dJ b v σ=some u→C u σ
 | .uI e k,σ,C=>NE ρ e σ λv σ=>oE v σ=true→NE ρ k σ λk σ=>∀{u},qX v k σ=some u→C u σ
 | .append e y,σ,C=>NE ρ e σ λv σ=>mH v σ=true→NE ρ y σ λu σ=>∀{τ},lO v u σ=some τ→C .none τ
 | .bin op a b,σ,C=>NE ρ a σ λv σ=>NE ρ b σ λu σ=>∀{w},jq op v u=some w→C w σ
 | .neg a,σ,C=>NE ρ a σ λv σ=>match v with| .int i=>C (.int (-i)) σ|_=>True
 | .not a,σ,C=>NE ρ a σ λv σ=>tr v λb=>C (.bool (!b)) σ
 | .and es,σ,C=>NA ρ es σ C
 | .or es,σ,C=>NO ρ es σ C
 | .cmp a op b,σ,C=>NE ρ a σ λv σ=>NE ρ b σ λu σ=>∀{r},cX op v u σ=some r→C (.bool r) σ
 | .sj a o1 b o2 c,σ,C=>NE ρ a σ λv σ=>NE ρ b σ λu σ=>∀{r},cX o1 v u σ=some r→match r with
  |true=>NE ρ c σ λt σ=>∀{r},cX o2 u t σ=some r→C (.bool r) σ
  |false=>C (.bool false) σ
 | .ite t a b,σ,C=>NE ρ t σ λv σ=>tr v λc=>match c with|true=>NE ρ a σ C|false=>NE ρ b σ C
 | .tup es,σ,C=>NL ρ es σ λvs σ=>C (.tup vs) σ
 | .lst es,σ,C=>NL ρ es σ λvs σ=>C (.lst vs) σ
 | .cell es,σ,C=>NL ρ es σ λvs σ=>C (.loc σ.length) (σ++[.list vs])
 | .dict es,σ,C=>NL ρ es σ λvs σ=>∀{o},dictOf vs=some o→C (.loc σ.length) (σ++[o])
 | .nX e x it,σ,C=>∀{u τ},aH call ρ (.nX e x it) σ=some (u,τ)→C u τ
 | .o4 it,σ,C=>NE ρ it σ λv σ=>match v with| .lst []=>C (.lst []) σ|_=>True
 | .never,_,_=>True
noncomputable def NL(ρ:Env):List ME→aa→(List V→aa→Prop)→Prop
 | [],σ,C=>C [] σ
 |e::r,σ,C=>NE ρ e σ λv σ=>NL ρ r σ λvs σ=>C (v::vs) σ
noncomputable def NA(ρ:Env):List ME→aa→(V→aa→Prop)→Prop
 | [],_,_=>True
 | [e],σ,C=>NE ρ e σ C
 |e::r,σ,C=>NE ρ e σ λv σ=>tr v λc=>match c with|true=>NA ρ r σ C|false=>C v σ
noncomputable def NO(ρ:Env):List ME→aa→(V→aa→Prop)→Prop
 | [],_,_=>True
 | [e],σ,C=>NE ρ e σ C
 |e::r,σ,C=>NE ρ e σ λv σ=>tr v λc=>match c with|true=>C v σ|false=>NO ρ r σ C
end
mutual
noncomputable def NS(ρ:Env):MS→aa→(Fl→Env→aa→Prop)→Prop
 | .assign x e,σ,C=>NE call ρ e σ λv σ=>C .next (ρ.set x (some v)) σ
 | .jQ x d _ it,σ,C=>NE call ρ it σ λv σ=>∀{l vs},j6 v ρ[d]? σ=some (l,vs)→C .next (ρ.set x (some (.lst vs))) σ
 | .jR x d _ it,σ,C=>NE call ρ it σ λv σ=>∀{l vs},j6 v ρ[d]? σ=some (l,vs)→C .next (ρ.set x (some (.loc σ.length))) (σ++[.dict 2 (putAll [] (l.zip vs))])
 | .setattr o n e,σ,C=>NE call ρ e σ λv σ=>NE call ρ o σ λu σ=>∀{τ},sM u n v σ=some τ→C .next ρ τ
 | .aS o k e,σ,C=>NE call ρ e σ λv σ=>NE call ρ o σ λu σ=>NE call ρ k σ λk σ=>∀{τ},kG u k v σ=some τ→C .next ρ τ
 | .unpack xs e,σ,C=>NE call ρ e σ λv σ=>match v with
  | .tup l=>match cY ρ xs l with|some ρ'=>C .next ρ' σ|none=>True
  |_=>True
 | .aug x op e,σ,C=>match ρ[x]? with
  |some (some v)=>NE call ρ e σ λu σ=>∀{w},Ex op v u=some w→C .next (ρ.set x (some w)) σ
  |_=>True
 | .expr e,σ,C=>NE call ρ e σ λv σ=>match v with| .none=>C .next ρ σ|_=>True
 | .ret e,σ,C=>NE call ρ e σ λv σ=>C (.ret v) ρ σ
 | .ite t a b,σ,C=>NE call ρ t σ λv σ=>tr v λc=>match c with|true=>NB ρ a σ C|false=>NB ρ b σ C
 | .brk,σ,C=>C .brk ρ σ
 | .cont,σ,C=>C .cont ρ σ
 | .jm o k,σ,C=>NE call ρ o σ λu σ=>NE call ρ k σ λk σ=>∀{τ},yk u k σ=some τ→C .next ρ τ
 | .never,_,_=>True
 | .for x it b,σ,C=>NE call ρ it σ λv σ=>isSeq v (λl=>NG (λρ u=>some (ρ.set x (some u))) (λρ σ C=>NB ρ b σ C) l ρ σ C) (∀{fl ρ' τ},kH call ρ (.for x (.lit v) b) σ=some (fl,ρ',τ)→C fl ρ' τ)
 | .wz xs it b,σ,C=>NE call ρ it σ λv σ=>isSeq v (λl=>NG (λρ u=>match u with| .tup l=>cY ρ xs l|_=>none) (λρ σ C=>NB ρ b σ C) l ρ σ C) (∀{fl ρ' τ},kH call ρ (.wz xs (.lit v) b) σ=some (fl,ρ',τ)→C fl ρ' τ)
 | .while t b,σ,C=>NW (λρ σ K=>NE call ρ t σ λv σ=>tr v λc=>K c σ) (λρ σ C=>NB ρ b σ C) 4 ρ σ C
 |m,σ,C=>∀{fl ρ' τ},kH call ρ m σ=some (fl,ρ',τ)→C fl ρ' τ
noncomputable def NB(ρ:Env):List MS→aa→(Fl→Env→aa→Prop)→Prop
 | [],σ,C=>C .next ρ σ
 |s::r,σ,C=>NS ρ s σ λf ρ' τ=>match f with| .next=>NB ρ' r τ C|f=>C f ρ' τ
end
noncomputable def QH:Nat→Env→List MS→aa→(Fl→Env→aa→Prop)→Prop
 |0,ρ,m,σ,C=>∀{f ρ' τ},aP call ρ m σ=some (f,ρ',τ)→C f ρ' τ
 |n+1,ρ,[],σ,C=>C .next ρ σ
 |n+1,ρ,s::r,σ,C=>NS call ρ s σ λf ρ' τ=>match f with| .next=>QH n ρ' r τ C|f=>C f ρ' τ
end
theorem bd{α β:Type}{o:Option α}{f:α→Option β}{a:α}{r:β}(h:o=some a)(k:f a=some r):o.bind f=some r:=by subst h;exact k
theorem mp{α β:Type}{o:Option α}{f:α→β}{a:α}(h:o=some a):o.map f=some (f a):=by subst h;rfl
theorem nS{α:Type}{a:α}{C:Prop}(h:none=some a):C:=nomatch h
theorem O1{α:Type}{c:Bool}{a:Option α}{r:α}(h:c=true)(k:a=some r):(if c then a else none)=some r:=by subst h;exact k
section
variable (call:Call)
set_option tactic.hygienic true in
mutual
theorem ne(ρ:Env):∀(m:ME)(σ:aa)(C:V→aa→Prop),(∀v τ,aH call ρ m σ=some (v,τ)→C v τ)→NE call ρ m σ C
 | .lit v,σ,C,H=>H _ _ rfl
 | .glob _ v,σ,C,H=>H _ _ rfl
 | .var i,σ,C,H=>by
  have H:∀v τ,(match ρ[i]? with|some (some v)=>some (v,σ)|_=>none)=some (v,τ)→C v τ:=H
  show(match ρ[i]? with|some (some v)=>C v σ|_=>True)
  revert H
  rcases ρ[i]? with _|(_|_)<;>intro H<;>first|exact trivial|exact H _ _ rfl
 | .attr e n,σ,C,H=>ne ρ e σ _ λv τ h=>λhu=>H _ _ (bd (f:=OL n) h (mp hu))
 | .item e i,σ,C,H=>ne ρ e σ _ λv τ h=>ne ρ i τ _ λj τ h2=>λhu=>H _ _ (bd (f:=OM call ρ i) h (bd (f:=Gl v) h2 (mp hu)))
 | .slice e lo hi,σ,C,H=>ne ρ e σ _ λv τ h=>ne ρ lo τ _ λa τ h2=>ne ρ hi τ _ λb τ h3=>λhu=>H _ _ (bd (f:=XU call ρ lo hi) h (bd (f:=OP call ρ hi v) h2 (bd (f:=ON v a) h3 (mp hu))))
 | .lH e lo,σ,C,H=>ne ρ e σ _ λv τ h=>ne ρ lo τ _ λa τ h2=>λhu=>H _ _ (bd (f:=XW call ρ lo) h (bd (f:=OQ v) h2 (mp hu)))
 | .j3 e hi,σ,C,H=>ne ρ e σ _ λv τ h=>ne ρ hi τ _ λa τ h2=>λhu=>H _ _ (bd (f:=XY call ρ hi) h (bd (f:=OS v) h2 (mp hu)))
 | .call f args,σ,C,H=>ne ρ f σ _ λf τ h=>nl ρ args τ _ λvs τ h2=>by
  cases f<;>first|exact trivial|exact λhu=>H _ _ (bd (f:=Kh call ρ args) h (bd (f:=Bd call _) h2 hu))|exact λhu=>H _ _ (bd (f:=Kh call ρ args) h (bd (f:=Bd call _) h2 (bd (f:=U6 _ _) hu rfl)))
 | .bH b _ e,σ,C,H=>ne ρ e σ _ λv τ h=>λhu=>H _ _ (bd (f:=eB b) h (mp hu))
 | .uI e k,σ,C,H=>ne ρ e σ _ λv τ h=>λhd=>ne ρ k τ _ λk τ h2=>λhu=>H _ _ (bd (f:=Se call ρ _) h (O1 hd (bd (f:=Kl v) h2 (mp hu))))
 | .append e k,σ,C,H=>ne ρ e σ _ λv τ h=>λhd=>ne ρ k τ _ λk τ h2=>λhu=>H _ _ (bd (f:=Sf call ρ _) h (O1 hd (bd (f:=Km v) h2 (mp hu))))
 | .bin op a b,σ,C,H=>ne ρ a σ _ λv τ h=>ne ρ b τ _ λu τ h2=>λhu=>H _ _ (bd (f:=Sg call ρ op b) h (bd (f:=Kn op v) h2 (mp hu)))
 | .neg a,σ,C,H=>ne ρ a σ _ λv τ h=>by cases v<;>first|exact trivial|exact H _ _ (bd (f:=Sh) h rfl)
 | .not a,σ,C,H=>ne ρ a σ _ λv τ h=>vZ λb q=>H _ _ (bd (f:=Sj) h (mp q))
 | .and es,σ,C,H=>na ρ es σ C H
 | .or es,σ,C,H=>no ρ es σ C H
 | .cmp a op b,σ,C,H=>ne ρ a σ _ λv τ h=>ne ρ b τ _ λu τ h2=>λhu=>H _ _ (bd (f:=Sk call ρ op b) h (bd (f:=B9 op v) h2 (mp hu)))
 | .sj a o1 b o2 c,σ,C,H=>ne ρ a σ _ λv τ h=>ne ρ b τ _ λu τ h2=>λ{r} hu=>by
  cases r
  ·exact H _ _ (bd (f:=U7 call ρ o1 b o2 c) h (bd (f:=Mj call ρ o1 v o2 c) h2 (bd (f:=Mi call ρ u o2 c τ) hu rfl)))
  ·exact ne ρ c τ _ λt mq h3=>λhw=>H _ _ (bd (f:=U7 call ρ o1 b o2 c) h (bd (f:=Mj call ρ o1 v o2 c) h2 (bd (f:=Mi call ρ u o2 c τ) hu (bd (f:=B9 o2 u) h3 (mp hw)))))
 | .ite t a b,σ,C,H=>ne ρ t σ _ λv τ h=>vZ λc q=>match c,q with
  |false,q=>ne ρ b τ C λv' mq k=>H _ _ (bd (f:=OT call ρ a b) h (bd (f:=Gm call ρ a b τ) q k))
  |true,q=>ne ρ a τ C λv' mq k=>H _ _ (bd (f:=OT call ρ a b) h (bd (f:=Gm call ρ a b τ) q k))
 | .tup es,σ,C,H=>nl ρ es σ _ λvs τ h=>H _ _ (mp h)
 | .lst es,σ,C,H=>nl ρ es σ _ λvs τ h=>H _ _ (mp h)
 | .cell es,σ,C,H=>nl ρ es σ _ λvs τ h=>H _ _ (mp h)
 | .dict es,σ,C,H=>nl ρ es σ _ λvs τ h=>λho=>H _ _ (bd (f:=λx=>(dictOf x.1).map λo=>(V.loc x.2.length,x.2++[o])) h (mp (f:=λo=>(V.loc τ.length,τ++[o])) ho))
 | .nX e x it,σ,C,H=>λh=>H _ _ h
 | .o4 it,σ,C,H=>ne ρ it σ _ λv τ h=>by
  cases v<;>first|exact trivial|skip
  rename_i l
  cases l<;>first|exact trivial|exact H _ _ (bd (f:=XZ) h rfl)
 | .never,σ,C,H=>trivial
theorem nl(ρ:Env):∀(m:List ME)(σ:aa)(C:List V→aa→Prop),(∀v τ,jU call ρ m σ=some (v,τ)→C v τ)→NL call ρ m σ C
 | [],σ,C,H=>H _ _ rfl
 |e::r,σ,C,H=>ne ρ e σ _ λv τ h=>nl ρ r τ _ λvs τ h2=>H _ _ (bd (f:=eL call ρ r) h (mp h2))
theorem na(ρ:Env):∀(m:List ME)(σ:aa)(C:V→aa→Prop),(∀v τ,u6 call ρ m σ=some (v,τ)→C v τ)→NA call ρ m σ C
 | [],σ,C,H=>trivial
 | [e],σ,C,H=>ne ρ e σ C H
 |e::a::r,σ,C,H=>ne ρ e σ _ λv τ h=>vZ λc q=>match c,q with
  |false,q=>H _ _ (bd (f:=eA call ρ (a::r)) h (bd (f:=Sl call ρ (a::r) v τ) q rfl))
  |true,q=>na ρ (a::r) τ C λv' mq k=>H _ _ (bd (f:=eA call ρ (a::r)) h (bd (f:=Sl call ρ (a::r) v τ) q k))
theorem no(ρ:Env):∀(m:List ME)(σ:aa)(C:V→aa→Prop),(∀v τ,u9 call ρ m σ=some (v,τ)→C v τ)→NO call ρ m σ C
 | [],σ,C,H=>trivial
 | [e],σ,C,H=>ne ρ e σ C H
 |e::a::r,σ,C,H=>ne ρ e σ _ λv τ h=>vZ λc q=>match c,q with
  |true,q=>H _ _ (bd (f:=eO call ρ (a::r)) h (bd (f:=Sm call ρ (a::r) v τ) q rfl))
  |false,q=>no ρ (a::r) τ C λv' mq k=>H _ _ (bd (f:=eO call ρ (a::r)) h (bd (f:=Sm call ρ (a::r) v τ) q k))
end
noncomputable def IQ(ρ:Env)(x:Nat)(op:Op)(v:V):V × aa→Option (Fl × Env × aa):=λ(u,σ)=>(Ex op v u).map λw=>(.next,ρ.set x (some w),σ)
theorem O2(ρ:Env)(x:Nat)(op:Op)(e:ME)(σ:aa)(v:V)(h:ρ[x]? =some (some v)):kH call ρ (.aug x op e) σ=(aH call ρ e σ).bind (IQ ρ x op v):=by
 refine(?_:(match ρ[x]? with|some (some v)=>(aH call ρ e σ).bind (IQ ρ x op v)|_=>none)=_)
 exact ay h (rfl)
theorem Gq{v:V}{K:List V→Prop}{N:Prop}{σ:aa}(h:∀l,(∀τ,jf v τ=some l)→(∀τ,dm v σ τ=true)→K l)(k:N):isSeq v K N:=by
 cases v<;>first|exact k|exact h _ (λ_=>rfl) (λ_=>rfl)|exact λ{l} q=>h l (λ_=>q) (λ_=>rfl)
theorem ng(bx:Env→V→Option Env)(B:Env→aa→(Fl→Env→aa→Prop)→Prop)(R:Env→aa→Option (Fl × Env × aa))(hB:∀ρ σ C,(∀f ρ' τ,R ρ σ=some (f,ρ',τ)→C f ρ' τ)→B ρ σ C)(ok:aa→Bool)(hs:∀τ,ok τ=true):
  ∀(l:List V)(ρ:Env)(σ:aa)(C:Fl→Env→aa→Prop),(∀f ρ' τ,g6 R bx ok l ρ σ=some (f,ρ',τ)→C f ρ' τ)→NG bx B l ρ σ C
 | [],ρ,σ,C,H=>H _ _ _ (aC (hs σ))
 |u::r,ρ,σ,C,H=>by
  have H:∀f ρ' τ,(bx ρ u).bind (λρ=>(R ρ σ).bind λ(f,ρ,σ)=>match f with
   | .brk=>some (.next,ρ,σ)
   | .ret u=>some (.ret u,ρ,σ)
   |_=>g6 R bx ok r ρ σ)=some (f,ρ',τ)→C f ρ' τ:=λf ρ' τ k=>H f ρ' τ ((aC (hs σ)).trans k)
  unfold NG
  revert H
  cases bx ρ u<;>intro H
  ·exact trivial
  ·refine hB _ _ _ λf ρ' τ h=>?_
   cases f<;>first|exact ng bx B R hB ok hs r ρ' τ C λf Sp mq k=>H _ _ _ (bd rfl (bd h k))|exact H _ _ _ (bd rfl (bd h rfl))
theorem nw(T:Env→aa→(Bool→aa→Prop)→Prop)(B:Env→aa→(Fl→Env→aa→Prop)→Prop)(U:Env→aa→Option (Bool × aa))(R:Env→aa→Option (Fl × Env × aa))(hT:∀ρ σ K,(∀c τ,U ρ σ=some (c,τ)→K c τ)→T ρ σ K)(hB:∀ρ σ C,(∀f ρ' τ,R ρ σ=some (f,ρ',τ)→C f ρ' τ)→B ρ σ C):
  ∀(n:Nat)(ρ:Env)(σ:aa)(C:Fl→Env→aa→Prop),(∀f ρ' τ,lQ U R n ρ σ=some (f,ρ',τ)→C f ρ' τ)→NW T B n ρ σ C
 |0,ρ,σ,C,H=>trivial
 |n+1,ρ,σ,C,H=>hT _ _ _ λc τ h=>match c,h with
  |false,h=>H _ _ _ (bd h rfl)
  |true,h=>hB _ _ _ λf ρ' mq h2=>by
   cases f<;>first|exact nw T B U R hT hB n ρ' mq C λf Sp Yh k=>H _ _ _ (bd h (bd h2 k))|exact H _ _ _ (bd h (bd h2 rfl))
set_option tactic.hygienic true in
mutual
theorem ns(ρ:Env):∀(m:MS)(σ:aa)(C:Fl→Env→aa→Prop),(∀f ρ' τ,kH call ρ m σ=some (f,ρ',τ)→C f ρ' τ)→NS call ρ m σ C
 | .assign x e,σ,C,H=>ne call ρ e σ _ λv τ h=>H _ _ _ (mp (f:=X3 ρ x) h)
 | .jQ x d _ it,σ,C,H=>ne call ρ it σ _ λv τ h=>λq=>H _ _ _ (bd (f:=X4 ρ x d) h (mp q))
 | .jR x d _ it,σ,C,H=>ne call ρ it σ _ λv τ h=>λq=>H _ _ _ (bd (f:=X5 ρ x d) h (mp q))
 | .sq ..,σ,C,H=>λh=>H _ _ _ h
 | .setattr o n e,σ,C,H=>ne call ρ e σ _ λv τ h=>ne call ρ o τ _ λu τ h2=>λhu=>H _ _ _ (bd (f:=X6 call ρ o n) h (bd (f:=OV ρ n v) h2 (mp hu)))
 | .aS o k e,σ,C,H=>ne call ρ e σ _ λv τ h=>ne call ρ o τ _ λu τ h2=>ne call ρ k τ _ λk' τ h3=>λhu=>H _ _ _ (bd (f:=X7 call ρ o k) h (bd (f:=OX call ρ k v) h2 (bd (f:=OW ρ v u) h3 (mp hu))))
 | .unpack xs e,σ,C,H=>ne call ρ e σ _ λv τ h=>by
  cases v<;>first|exact trivial|skip
  rename_i l
  have H:∀ρ',cY ρ xs l=some ρ'→C .next ρ' τ:=λρ' q=>H _ _ _ (bd (f:=X8 ρ xs) h (mp q))
  show(match cY ρ xs l with|some ρ'=>C .next ρ' τ|none=>True)
  revert H
  cases cY ρ xs l<;>intro H<;>first|exact trivial|exact H _ rfl
 | .aug x op e,σ,C,H=>by
  have H:∀v f ρ' τ,ρ[x]? =some (some v)→(aH call ρ e σ).bind (IQ ρ x op v)=some (f,ρ',τ)→C f ρ' τ:=λv f ρ' τ q k=>H _ _ _ ((O2 call ρ x op e σ v q).trans k)
  show(match ρ[x]? with|some (some v)=>NE call ρ e σ λu σ=>∀{w},Ex op v u=some w→C .next (ρ.set x (some w)) σ|_=>True)
  revert H
  rcases ρ[x]? with _|(_|v)<;>intro H<;>first|exact trivial|exact ne call ρ e σ _ λu τ h=>λhu=>H v _ _ _ rfl (bd (f:=IQ ρ x op v) h (mp hu))
 | .expr e,σ,C,H=>ne call ρ e σ _ λv τ h=>by cases v<;>first|exact trivial|exact H _ _ _ (bd (f:=Yb ρ) h rfl)
 | .ret e,σ,C,H=>ne call ρ e σ _ λv τ h=>H _ _ _ (mp (f:=Yc ρ) h)
 | .ite t a b,σ,C,H=>ne call ρ t σ _ λv τ h=>vZ λc q=>match c,q with
  |false,q=>nb ρ b τ C λf ρ' mq k=>H _ _ _ (bd (f:=U8 call ρ a b) h (bd (f:=Mm call ρ a b τ) q k))
  |true,q=>nb ρ a τ C λf ρ' mq k=>H _ _ _ (bd (f:=U8 call ρ a b) h (bd (f:=Mm call ρ a b τ) q k))
 | .brk,σ,C,H=>H _ _ _ rfl
 | .cont,σ,C,H=>H _ _ _ rfl
 | .jm o k,σ,C,H=>ne call ρ o σ _ λv τ h=>ne call ρ k τ _ λu τ h2=>λhu=>H _ _ _ (bd (f:=Ye call ρ k) h (bd (f:=OY ρ v) h2 (mp hu)))
 | .never,σ,C,H=>trivial
 | .while t b,σ,C,H=>nw (λρ σ K=>NE call ρ t σ λv σ=>tr v λc=>K c σ) (λρ σ C=>NB call ρ b σ C) (λρ σ=>(aH call ρ t σ).bind λ(v,σ)=>(dB v).map λc=>(c,σ)) (λρ σ=>aP call ρ b σ) (λρ σ K h=>ne call ρ t σ _ λv τ q=>vZ λc q2=>h _ _ (bd (f:=λ(v,σ)=>(dB v).map λc=>(c,σ)) q (mp q2))) (λρ σ C H=>nb ρ b σ C H) 4 ρ σ C H
 | .for x it b,σ,C,H=>ne call ρ it σ _ λv τ h=>Gq (λl hl hs=>ng _ _ (λρ σ=>aP call ρ b σ) (λρ σ C H=>nb ρ b σ C H) (dm v τ) hs l ρ τ C λf ρ' mq k=>H _ _ _ (bd (f:=fB call ρ x b) h (bd (f:=QG call ρ x b v τ) (hl τ) k))) (λk=>H _ _ _ (bd (f:=fB call ρ x b) h k))
 | .wz xs it b,σ,C,H=>ne call ρ it σ _ λv τ h=>Gq (λl hl hs=>ng _ _ (λρ σ=>aP call ρ b σ) (λρ σ C H=>nb ρ b σ C H) (dm v τ) hs l ρ τ C λf ρ' mq k=>H _ _ _ (bd (f:=gB call ρ xs b) h (bd (f:=U9 call ρ xs b v τ) (hl τ) k))) (λk=>H _ _ _ (bd (f:=gB call ρ xs b) h k))
theorem nb(ρ:Env):∀(m:List MS)(σ:aa)(C:Fl→Env→aa→Prop),(∀f ρ' τ,aP call ρ m σ=some (f,ρ',τ)→C f ρ' τ)→NB call ρ m σ C
 | [],σ,C,H=>H _ _ _ rfl
 |s::r,σ,C,H=>ns ρ s σ _ λf ρ' τ h=>by
  cases f<;>first|exact nb ρ' r τ C λf ρ' mq h2=>H _ _ _ (bd (f:=pB call r) h h2)|exact H _ _ _ (bd (f:=pB call r) h rfl)
end
theorem O3:∀(n:Nat)(ρ:Env)(m:List MS)(σ:aa)(C:Fl→Env→aa→Prop),(∀f ρ' τ,aP call ρ m σ=some (f,ρ',τ)→C f ρ' τ)→QH call n ρ m σ C
 |0,ρ,m,σ,C,H=>λh=>H _ _ _ h
 |n+1,ρ,[],σ,C,H=>H _ _ _ rfl
 |n+1,ρ,s::r,σ,C,H=>ns call ρ s σ _ λf ρ' τ h=>by
  cases f<;>first|exact O3 n ρ' r τ C λf ρ' mq h2=>H _ _ _ (bd (f:=pB call r) h h2)|exact H _ _ _ (bd (f:=pB call r) h rfl)
theorem nB(ρ:Env)(m:List MS)(σ:aa):NB call ρ m σ λf ρ' τ=>aP call ρ m σ=some (f,ρ',τ):=nb call ρ m σ _ λ_ _ _ h=>h
end
theorem nF{n f:Nat}{d:FD}{vs:List V}{ρ:Env}{σ:aa}(h:P0 f=some d)(hb:kI d vs=some ρ):NB (af P0 n) ρ d.body σ λfl _ τ=>match fl with
  | .ret v=>af P0 (n+1) f vs σ=some (v,τ)
  | .next=>af P0 (n+1) f vs σ=some (.none,τ)
  |_=>True:=nb _ ρ d.body σ _ λfl ρ' τ q=>by
 have e:=xH (n:=n) d ρ (σ:=σ) h hb
 rw[q] at e
 cases fl<;>first|exact trivial|exact e
theorem nG{n f:Nat}{d:FD}{vs:List V}{ρ:Env}{σ:aa}{r:Option (V × aa)}(h:P0 f=some d)(hb:kI d vs=some ρ)(k:(NB (af P0 n) ρ d.body σ λfl _ τ=>match fl with
  | .ret v=>af P0 (n+1) f vs σ=some (v,τ)
  | .next=>af P0 (n+1) f vs σ=some (.none,τ)
  |_=>True)→af P0 (n+1) f vs σ=r):af P0 (n+1) f vs σ=r:=k (nF h hb)
theorem IS{n f:Nat}{d:FD}{vs:List V}{ρ:Env}{σ:aa}{r:Option (V × aa)}(m:Nat)(h:P0 f=some d)(hb:kI d vs=some ρ)(k:(QH (af P0 n) m ρ d.body σ λfl _ τ=>match fl with
  | .ret v=>af P0 (n+1) f vs σ=some (v,τ)
  | .next=>af P0 (n+1) f vs σ=some (.none,τ)
  |_=>True)→af P0 (n+1) f vs σ=r):af P0 (n+1) f vs σ=r:=k (O3 _ m ρ d.body σ _ λfl ρ' τ q=>by
 have e:=xH (n:=n) d ρ (σ:=σ) h hb
 rw[q] at e
 cases fl<;>first|exact trivial|exact e)
theorem yb{call:Call}{ρ:Env}{m:List MS}{σ:aa}{r:Option (Fl × Env × aa)}(n:Nat)(k:(QH call n ρ m σ λf ρ' τ=>aP call ρ m σ=some (f,ρ',τ))→aP call ρ m σ=r):aP call ρ m σ=r:=k (O3 call n ρ m σ _ λ_ _ _ h=>h)
theorem nH{call:Call}{ρ:Env}{m:List MS}{σ:aa}{r:Option (Fl × Env × aa)}(k:(NB call ρ m σ λf ρ' τ=>aP call ρ m σ=some (f,ρ',τ))→aP call ρ m σ=r):aP call ρ m σ=r:=k (nB call ρ m σ)
section
variable {x c n:Nat} {fs:List (Nat × V)} {es:List (V × V)} {l:List V} {u v w:V} {σ:aa} {i j:Int} {k:Nat}
theorem gA(h:σ[x]? =some (.inst c fs))(q:o7 fs n=some v):CI (.loc x) n σ=some v:=by unfold CI;dsimp only;rw[h];exact q
theorem bq(h:σ[x]? =some (.dict 2 es))(q:aQ es (.str n)=some v):cH (.loc x) (.str n) σ=some v:=by unfold cH;dsimp only;rw[h];exact q
theorem Mn(h:σ[x]? =some (.dict 1 es))(q:aQ es (.int i)=some v):cH (.loc x) (.int i) σ=some v:=by unfold cH;dsimp only;rw[h];exact q
theorem Ea(h:σ[x]? =some (.list l))(q:(gE i).bind (l[·]?)=some v):cH (.loc x) (.int i) σ=some v:=by unfold cH;dsimp only;rw[h];exact q
theorem O4(h:σ[x]? =some (.dict k es)):oE (.loc x) σ=true:=by unfold oE;dsimp only;rw[h]
theorem O5(h:σ[x]? =some (.list l)):mH (.loc x) σ=true:=by unfold mH;dsimp only;rw[h]
theorem dG(h:σ[x]? =some (.dict k es))(hk:k=0∨k=3)(q:kk u=3)(e:(aQ es u).getD .none=w):qX (.loc x) u σ=some w:=by
 subst e;unfold qX;dsimp only;rw[h];exact aB (λz=>z.elim (λz=>z q) (λz=>z hk))
theorem QI(h:σ[x]? =some (.dict k es))(hk:k=0∨k=3)(q:kk u=3)(e:aQ es u=some w):qX (.loc x) u σ=some w:=dG h hk q (by rw[e];rfl)
theorem Yi(h:σ[x]? =some (.dict k es))(hk:k=0∨k=3)(q:kk u=3)(e:aQ es u=none):qX (.loc x) u σ=some .none:=dG h hk q (by rw[e];rfl)
theorem ap(h:σ[x]? =some (.list l))(q:l.length<1000):lO (.loc x) u σ=some (σ.set x (.list (l++[u]))):=by unfold lO;dsimp only;rw[h];exact aC q
theorem Gr(h:σ[x]? =some (.list l))(q:l.length≤100000):dJ .len (.loc x) σ=some (.int l.length):=(aj KQ h).trans (aC q)
theorem O6(h:σ[x]? =some (.dict k es))(hk:k≤1)(q:es.length≤100000):dJ .len (.loc x) σ=some (.int es.length):=(aj KQ h).trans (aC ⟨hk,q⟩)
theorem Yj(h:σ[x]? =some (.dict 0 [])):dJ .list (.loc x) σ=some (.lst []):=(aj JK h).trans rfl
theorem sA(h:σ[x]? =some (.inst c fs))(q:fs.length≤900):sM (.loc x) n u σ=some (σ.set x (.inst c (kF fs n u))):=by unfold sM;dsimp only;rw[h];exact aC q
theorem rD(h:In x σ)(q:fs.length≤900):sM (.loc x) n u (σ.set x (.inst c fs))=some (σ.set x (.inst c (kF fs n u))):=(sA (cM x σ _ h) q).trans (aj some (List.set_set ..))
theorem Sq{m:Nat}(h:m≤800):m+7≤900:=cV (Nat.add_le_add_right h 7) (aD rfl)
theorem sI(h:σ[x]? =some (.dict k es))(q:kk u=0∨¬(k=0∨k=kk u)→False)(r:es.length<1000):kG (.loc x) u v σ=some (σ.set x (.dict (kk u) (cA es u v))):=by unfold kG;dsimp only;rw[h];exact(aB q).trans (aC r)
theorem Be(h:σ[x]? =some (.dict 2 es))(r:es.length<1000):kG (.loc x) (.str n) v σ=some (σ.set x (.dict 2 (cA es (.str n) v))):=sI h (λz=>z.elim (λe=>nomatch (show(2:Nat)=0 from e)) λz=>z (.inr rfl)) r
theorem lY(h:In x σ)(r:es.length<1000):kG (.loc x) (.str n) v (σ.set x (.dict 2 es))=some (σ.set x (.dict 2 (cA es (.str n) v))):=(Be (cM x σ _ h) r).trans (aj some (List.set_set ..))
theorem QJ(h:σ[x]? =some (.list l))(q:gE i=some k)(r:k<l.length):kG (.loc x) (.int i) v σ=some (σ.set x (.list (l.set k v))):=by
 unfold kG;dsimp only;rw[h];show((gE i).bind _)=_;rw[q];exact aC r
theorem dI(h:σ[x]? =some (.dict k es))(q:kk u≠0)(q2:k=kk u)(r:(aQ es u).isSome=true)(r2:es.length≤1000):yk (.loc x) u σ=some (σ.set x (.dict k (fU es u))):=by
 unfold yk;dsimp only;rw[h];exact(aB (λz=>z.elim q (λz=>z q2))).trans (aC ⟨r,r2⟩)
theorem Va(h:σ[x]? =some (.dict 3 es))(q:kk u=3)(e:aQ es u=some w)(r:es.length≤1000):yk (.loc x) u σ=some (σ.set x (.dict 3 (fU es u))):=dI h (by rw[q];decide) q.symm (by rw[e];rfl) r
theorem Yk(h:σ[x]? =some (.dict 1 es))(e:aQ es (.int i)=some w)(r:es.length≤1000):yk (.loc x) (.int i) σ=some (σ.set x (.dict 1 (fU es (.int i)))):=dI h (λe=>nomatch (show(1:Nat)=0 from e)) rfl (by rw[e];rfl) r
theorem Ss(h:In x σ)(q:kk u=3)(e:aQ es u=some w)(r:es.length≤1000):yk (.loc x) u (σ.set x (.dict 3 es))=some (σ.set x (.dict 3 (fU es u))):=(Va (cM x σ _ h) q e r).trans (aj some (List.set_set ..))
theorem Vb{j:Nat}{d:List (V × V)}{r:Bool}(hj:¬(j=0∨j=3))(e:(aQ d u).isSome=r):(if j=0∨j=3 then none else if j=0∨j=j then some (aQ d u).isSome else none)=some r:=(aB hj).trans ((aC (.inr rfl)).trans (aj some e))
theorem O7{r:Bool}(h:σ[x]? =some (.dict 1 es))(e:(aQ es (.int i)).isSome=r):cX .isin (.int i) (.loc x) σ=some r:=(aj (λo=>match o with|some (.dict k d)=>if kk (.int i)=0∨kk (.int i)=3 then none else if k=0∨k=kk (.int i) then some (aQ d (.int i)).isSome else none|_=>none) h).trans (Vb (j:=1) (by decide) e)
theorem O8{r:Bool}(h:σ[x]? =some (.dict 2 es))(e:(aQ es (.str n)).isSome=r):cX .isin (.str n) (.loc x) σ=some r:=(aj (λo=>match o with|some (.dict k d)=>if kk (.str n)=0∨kk (.str n)=3 then none else if k=0∨k=kk (.str n) then some (aQ d (.str n)).isSome else none|_=>none) h).trans (Vb (j:=2) (by decide) e)
theorem Nd(h:σ[x]? =some (.dict 1 es))(e:aQ es (.int i)=some w):cX .isin (.int i) (.loc x) σ=some true:=O7 h (aj Option.isSome e)
theorem Yl(h:σ[x]? =some (.dict 1 es))(e:aQ es (.int i)=none):cX .isin (.int i) (.loc x) σ=some false:=O7 h (aj Option.isSome e)
theorem O9(h:σ[x]? =some (.dict 2 es))(e:aQ es (.str n)=some w):cX .isin (.str n) (.loc x) σ=some true:=O8 h (aj Option.isSome e)
theorem Su(h:σ[x]? =some (.dict 2 es))(e:aQ es (.str n)=none):cX .isin (.str n) (.loc x) σ=some false:=O8 h (aj Option.isSome e)
theorem nz{k:Nat}(h:¬k=0):¬((k:Nat):Int)=0:=λz=>h (Int.ofNat.inj z)
theorem zz{k:Nat}(h:k=0):((k:Nat):Int)=0:=aj Int.ofNat h
theorem uc(h:x=σ.length)(q:fs.length≤900):sM (.loc x) n u (σ++[.inst c fs])=some (σ++[.inst c (kF fs n u)]):=(sA (lu x σ _ h) q).trans (aj some (fh x σ _ _ h))
theorem uH(h:x=σ.length)(q:es.length<1000):kG (.loc x) (.str n) v (σ++[.dict 2 es])=some (σ++[.dict 2 (cA es (.str n) v)]):=(Be (lu x σ _ h) q).trans (aj some (fh x σ _ _ h))
theorem ku{b:List Nat}(q:b.length≤100000):dJ .len (.aM b) σ=some (.int b.length):=aC q
theorem Sv{b:List Nat}(q:gE i=some k)(h:b.length≤1000):Na (.aM b) (.int i)=some (.aM (b.drop k)):=by
 show(gE i).bind _=_
 rw[q];exact aC h
theorem zC{b:List Nat}{m:Nat}(q:gE i=some k)(q2:gE j=some m)(h:b.length≤1000):HP (.aM b) (.int i) (.int j)=some (.aM (nQ b k m)):=by
 refine(?_:(gE i).bind (λa=>(gE j).bind _)=_)
 rw[q,q2];exact aC h
theorem IT{b:List Nat}{m:Nat}(q:gE i=some k)(h:b[k]? =some m):cH (.aM b) (.int i) σ=some (.int m):=by
 refine(?_:((gE i).bind _).map _=_)
 rw[q];show(b[k]?).map _=_;rw[h];rfl
theorem jd{b c:Bool}(h:σ[x]? =some (.dict 2 es))(q:aQ es (.str n)=some (.bool b))(e:b=c):cH (.loc x) (.str n) σ=some (.bool c):=e▸bq h q
theorem QK(h:σ[x]? =some (.dict k es))(hk:k=0∨k=3)(q:kk u=3)(r:es.length<1000):kG (.loc x) u v σ=some (σ.set x (.dict 3 (cA es u v))):=(sI h (by rw[q];lia) r).trans (by rw[q])
theorem Ym(h:σ[x]? =some (.dict k es))(hk:k=0∨k=1)(r:es.length<1000):kG (.loc x) (.int i) v σ=some (σ.set x (.dict 1 (cA es (.int i) v))):=sI h (by simp only[kk];lia) r
theorem Sw(h:In x σ)(q:kk u=3)(r:es.length<1000):kG (.loc x) u v (σ.set x (.dict 3 es))=some (σ.set x (.dict 3 (cA es u v))):=(QK (cM x σ _ h) (.inr rfl) q r).trans (aj some (List.set_set ..))
theorem forL{call:Call}{ρ:Env}{b:List MS}{r:Option (Fl × Env × aa)}(h:σ[x]? =some (.list l))(e:zB call n b (.loc x) σ l ρ σ=r):kH call ρ (.for n (.lit (.loc x)) b) σ=r:=by
 rw[←e];show(jf (.loc x) σ).bind _=_;unfold jf;dsimp only;rw[h];rfl
theorem QL{vs:List V}(h:σ[x]? =some (.dict 2 es))(q:l.length≤1000)(e:rowsOf es l=some vs):j6 (.lst l) (some (some (.loc x))) σ=some (l,vs):=by
 unfold j6;try dsimp only
 rw[h];show(if l.length≤1000 then Option.map _ (rowsOf es l) else none)=_;rw[aC q,e];rfl
theorem Pa{τ:aa}{o:O}{f:Option aa}(h:In x σ)(e:f=some ((σ++τ).set x o)):f=some (σ.set x o++τ):=e.trans (aj some (xJ x σ τ o h))
theorem eqT(h:i=j):cX .eq (.int i) (.int j) σ=some true:=aj some (fk (aj V.int h))
theorem gn(h:¬i=j):cX .eq (.int i) (.int j) σ=some false:=aj some (gM λe=>h (V.int.inj e))
theorem neT(h:¬i=j):cX .ne (.int i) (.int j) σ=some true:=aj (λb=>some (!b)) (gM λe=>h (V.int.inj e))
theorem uT(h:i=j):cX .ne (.int i) (.int j) σ=some false:=aj (λb=>some (!b)) (fk (aj V.int h))
theorem Mp(h:i<j):cX .lt (.int i) (.int j) σ=some true:=aj some (fk h)
theorem Eb(h:¬i<j):cX .lt (.int i) (.int j) σ=some false:=aj some (gM h)
theorem Mq(h:i≤j):cX .le (.int i) (.int j) σ=some true:=aj some (fk h)
theorem Yn(h:¬i≤j):cX .le (.int i) (.int j) σ=some false:=aj some (gM h)
theorem Kq(h:j<i):cX .gt (.int i) (.int j) σ=some true:=aj some (fk h)
theorem IU(h:¬j<i):cX .gt (.int i) (.int j) σ=some false:=aj some (gM h)
theorem Yo(h:j≤i):cX .ge (.int i) (.int j) σ=some true:=aj some (fk h)
theorem QM(h:¬j≤i):cX .ge (.int i) (.int j) σ=some false:=aj some (gM h)
theorem Sx(h:¬i=0):dB (.int i)=some true:=aj some (bne_iff_ne.mpr h)
theorem Pb{a b:List V}(ha:bl 6 (.tup a)=true)(hb:bl 6 (.tup b)=true)(h:a=b):cX .eq (.tup a) (.tup b) σ=some true:=(aC (by rw[ha,hb];rfl)).trans (aj some (fk (aj V.tup h)))
theorem Sy{a b:List V}(ha:bl 6 (.tup a)=true)(hb:bl 6 (.tup b)=true)(h:¬a=b):cX .ne (.tup a) (.tup b) σ=some true:=(aC (by rw[ha,hb];rfl)).trans (aj (λb=>some (!b)) (gM λe=>h (V.tup.inj e)))
theorem zD{a b:List V}(ha:bl 6 (.tup a)=true)(hb:bl 6 (.tup b)=true)(h:a=b):cX .ne (.tup a) (.tup b) σ=some false:=(aC (by rw[ha,hb];rfl)).trans (aj (λb=>some (!b)) (fk (aj V.tup h)))
theorem Pc{a b:List V}(ha:bl 6 (.lst a)=true)(hb:bl 6 (.lst b)=true)(h:a=b):cX .eq (.lst a) (.lst b) σ=some true:=(aC (by rw[ha,hb];rfl)).trans (aj some (fk (aj V.lst h)))
theorem Pd{a b:List V}(ha:bl 6 (.lst a)=true)(hb:bl 6 (.lst b)=true):cX .eq (.lst a) (.lst b) σ=some (decide (a=b)):=(aC (by rw[ha,hb];rfl)).trans (aj some (decide_eq_decide.mpr ⟨V.lst.inj,aj V.lst⟩))
theorem ja{o:O}(h:In x σ):(σ.set x o)[x]? =some o:=cM x σ o h
theorem gb{y:Nat}{o o':O}(h:x≠y)(q:σ[y]? =some o'):(σ.set x o)[y]? =some o':=(bh x y σ o h).trans q
theorem bF{τ:aa}{o:O}(q:σ[x]? =some o):(σ++τ)[x]? =some o:=(fz x σ τ (In.of q)).trans q
theorem uU{o:O}{τ:aa}(h:x=σ.length):(σ++o::τ)[x]? =some o:=by subst h;simp
theorem iS{y:Nat}{o:O}(h:In x σ):In x (σ.set y o):=(Mh x y σ o).mpr h
end
theorem Pe(n:Nat)(a b:Int)(σ:aa):af P0 (n+1) 18 [.int a,.int b] σ=some (.bool ((decide (a=2)&&decide (b=1))||(decide (a=10)&&decide (b=58))),σ):=by
 by_cases h1:a=2
 ·refine ay h1 ?_
  by_cases h2:b=1
  ·subst h2;exact nG (d:=M8) (ρ:=[some (.int 2),some (.int 1)]) rfl rfl λφ=>φ rfl rfl
  ·rw[gM h2];exact nG (d:=M8) (ρ:=[some (.int 2),some (.int b)]) rfl rfl λφ=>φ rfl (gn h2) rfl
 ·refine ay (gM h1) (?_)
  by_cases h3:a=10
  ·refine ay h3 ?_
   by_cases h4:b=58
   ·subst h4;exact nG (d:=M8) (ρ:=[some (.int 10),some (.int 58)]) rfl rfl λφ=>φ rfl rfl rfl
   ·rw[gM h4];exact nG (d:=M8) (ρ:=[some (.int 10),some (.int b)]) rfl rfl λφ=>φ rfl rfl (gn h4)
  ·rw[gM h3];exact nG (d:=M8) (ρ:=[some (.int a),some (.int b)]) rfl rfl λφ=>φ (gn h1) (gn h3)
structure Q where
 zone:Int
 ai:Int
 proto:Int
 w3:Int
 w4:Int
 a1:Int
 p1:Int
 a2:Int
 p2:Int
 x:Int
 y:Int
 eE:Bool
noncomputable def Q.t(q:Q):V:= .tup [.int q.ai,.int q.proto,.int q.a1,.int q.p1,.int q.a2,.int q.x]
noncomputable def Q.b(q:Q):V:= .tup [.int q.ai,.int q.proto,.int q.a2,.int q.p2,.int q.a1,.int q.y]
noncomputable def Q.k0(q:Q):V:= .tup [.int q.zone,q.t]
noncomputable def Q.k1(q:Q):V:= .tup [.int q.zone,q.b]
structure Dt where
 q:Q
 num:Int
 since:Int
 eF:Int
 st:Nat
 kept:Bool
noncomputable def aK(d:Dt):O:= .inst 16 [(26,.int d.num),(27,d.q.t),(28,d.q.b),(29,.int d.q.zone),(30,.int d.eF),(31,.int d.since),(4,.int 0),(32,.int (d.st:Nat)),(33,.int 0),(34,.none),(35,.int 0)]
noncomputable def di(last:Int):O:= .inst 17 [(36,.int 64),(37,.int 0),(38,.int 128),(39,.loc 1),(40,.loc 2),(41,.int last),(42,.loc 3),(43,.lst []),(44,.loc 4),(45,.bool true)]
noncomputable def aq(pk now dc st gy bk:V)(g:List (Nat × V)):O:= .inst 53 ((67,pk)::(69,now)::(103,.str 102)::(70,dc)::(33,st)::(72,gy)::(40,bk)::g)
theorem Pf(n S:Nat){pk now dc st gy bk:V}{g:List (Nat × V)}(a b d:V){σ:aa}(h:σ[S]? =some (aq pk now dc st gy bk g))(hl:g.length≤800):
   af P0 (n+1) 46 [.loc S,a,b,d] σ=some (.none,σ.set S (aq pk now a b d bk g)):=by
  have hl':=Sq hl
  exact nG (d:=Uk) rfl rfl λt=>t (sA h hl') (rD (In.of h) hl') (rD (In.of h) hl')
theorem Vc(n l:Nat){d:Dt}{σ:aa}(h:σ[l]? =some (aK d))(b:Int):af P0 (n+1) 26 [.loc l,.int b] σ=some (if b=0 then d.q.t else d.q.b,σ):=by
 by_cases hb:b=0
 ·refine ay hb ?_
  exact nG (d:=Q8) rfl rfl λt=>t rfl (gA h rfl)
 ·refine ay (aB hb) ?_
  exact nG (d:=Q8) rfl rfl λt=>t (Sx hb) (gA h rfl)
theorem Gs(n:Nat){last now zone:Int}{kT:Nat}{tab:List (V × V)}{t:V}{σ:aa}(hB:σ[0]? =some (di last))(hT:σ[1]? =some (.dict kT tab))(hk:kT=0∨kT=3)
  (ht:kk (.tup [.int zone,t])=3)(hf:aQ tab (.tup [.int zone,t])=none):af P0 (n+1) 28 [.loc 0,.int zone,t,.int now] σ=some (.none,σ):=by
 exact nG (d:=Qn) rfl rfl λt=>t (gA hB rfl) (O4 hT) (Yi hT hk ht hf) rfl
theorem ud(n:Nat){last now zone:Int}{kT:Nat}{tab dR:List (V × V)}{t:V}{σ:aa}{d:Dt}{tl:Nat}{dir:Int}(hB:σ[0]? =some (di last))(hT:σ[1]? =some (.dict kT tab))(hk:kT=0∨kT=3)
  (ht:kk (.tup [.int zone,t])=3)(hf:aQ tab (.tup [.int zone,t])=some (.tup [.int d.num,.int dir]))(hK:σ[2]? =some (.dict 1 dR))(hf2:aQ dR (.int d.num)=some (.loc tl))(hd:σ[tl]? =some (aK d))(hlive:now<d.eF):
  af P0 (n+1) 28 [.loc 0,.int zone,t,.int now] σ=some (.tup [.loc tl,.int dir],σ):=by
 have Mr:¬d.eF≤now:=by exact Int.not_le.mpr (hlive)
 exact nG (d:=Qn) rfl rfl λt=>t (gA hB rfl) (O4 hT) (QI hT hk ht hf) rfl (gA hB rfl) rfl (Mn hK hf2) (gA hd rfl) (Yn Mr) rfl
theorem Yp(n:Nat){last:Int}{tab dR:List (V × V)}{σ:aa}{d:Dt}{tl:Nat}(hB:σ[0]? =some (di last))(hT:σ[1]? =some (.dict 3 tab))(hK:σ[2]? =some (.dict 1 dR))(hF:σ[4]? =some (.dict 0 []))
  (hd:σ[tl]? =some (aK d))(cN:15≤tl)(k0:kk d.q.k0=3)(k1:kk d.q.k1=3)
  (f0:aQ tab d.q.k0=some (.tup [.int d.num,.int 0]))(f1:aQ (fU tab d.q.k0) d.q.k1=some (.tup [.int d.num,.int 1]))(f2:aQ dR (.int d.num)=some (.loc tl))
  (l1:tab.length≤1000)(Ms:(fU tab d.q.k0).length≤1000)(l2:dR.length≤1000):
  af P0 (n+2) 27 [.loc 0,.loc tl] σ=some (.none,(((σ.set 1 (.dict 3 (fU (fU tab d.q.k0) d.q.k1))).set 2 (.dict 1 (fU dR (.int d.num)))).set 0 (di last)).set tl (aK {d with st:=d.st ||| 512})):=by
 have e0:af P0 (n+1) 26 [.loc tl,.int 0] σ=some (d.q.t,σ):=Vc n tl hd 0
 have n1:1≠tl:=by exact λbT=>bO [_] [.l 1 (.num 15) vA,.f 1 (.num 1) vA] aI cN bT
 have n2:2≠tl:=by exact λbT=>bO [_] [.l 1 (.num 15) vA,.f 1 (.num 2) vA] aI cN bT
 have n0:0≠tl:=by exact λbT=>bO [_] [.l 1 (.num 15) vA,.f 1 (.num 0) vA] aI cN bT
 have e1:∀o,af P0 (n+1) 26 [.loc tl,.int 1] (σ.set 1 o)=some (d.q.b,σ.set 1 o):=λo=>Vc n tl (gb n1 hd) 1
 exact nG (d:=Ud) rfl rfl λt=>t (gA hd rfl) e0 (gA hB rfl) (O4 hT) (QI hT (.inr rfl) rfl f0) (gA hd rfl) (Pb rfl rfl rfl) (gA hB rfl) (Va hT rfl f0 l1) (gA (gb n1 hd) rfl) (e1 _) (gA (gb (by decide) hB) rfl) (O4 (ja (In.of hT))) (QI (ja (In.of hT)) (.inr rfl) rfl f1) (gA (gb n1 hd) rfl) (Pb rfl rfl rfl) (gA (gb (by decide) hB) rfl) (Ss (In.of hT) rfl f1 Ms) (gA (gb n1 hd) rfl) (gA (gb (by decide) hB) rfl) (Nd (gb (by decide) hK) f2) (gA (gb (by decide) hB) rfl) (gA (gb n1 hd) rfl) (Yk (gb (by decide) hK) f2 l2) (gA (gb (by decide) (gb (by decide) hB)) rfl) (Yj (gb (by decide) (gb (by decide) hF))) (gA (gb (by decide) (gb (by decide) hB)) rfl) (sA (gb (by decide) (gb (by decide) hB)) (aD rfl)) (gA (gb n0 (gb n2 (gb n1 hd))) rfl) rfl (sA (gb n0 (gb n2 (gb n1 hd))) (aD rfl))
noncomputable def dropped(σ:aa)(last:Int)(tab dR:List (V × V))(d:Dt)(tl:Nat):aa:=
 (((σ.set 1 (.dict 3 (fU (fU tab d.q.k0) d.q.k1))).set 2 (.dict 1 (fU dR (.int d.num)))).set 0 (di last)).set tl (aK {d with st:=d.st ||| 512})
theorem Gu(n:Nat){last now zone:Int}{tab dR:List (V × V)}{t:V}{σ:aa}{d:Dt}{tl:Nat}{dir:Int}(hB:σ[0]? =some (di last))(hT:σ[1]? =some (.dict 3 tab))(hK:σ[2]? =some (.dict 1 dR))(hF:σ[4]? =some (.dict 0 []))
  (hd:σ[tl]? =some (aK d))(cN:15≤tl)(k0:kk d.q.k0=3)(k1:kk d.q.k1=3)
  (f0:aQ tab d.q.k0=some (.tup [.int d.num,.int 0]))(f1:aQ (fU tab d.q.k0) d.q.k1=some (.tup [.int d.num,.int 1]))(f2:aQ dR (.int d.num)=some (.loc tl))
  (l1:tab.length≤1000)(Ms:(fU tab d.q.k0).length≤1000)(l2:dR.length≤1000)
  (ht:kk (.tup [.int zone,t])=3)(hf:aQ tab (.tup [.int zone,t])=some (.tup [.int d.num,.int dir]))(Ph:d.eF≤now):
  af P0 (n+3) 28 [.loc 0,.int zone,t,.int now] σ=some (.none,dropped σ last tab dR d tl):=by
 exact nG (d:=Qn) rfl rfl λt=>t (gA hB rfl) (O4 hT) (QI hT (.inr rfl) ht hf) rfl (gA hB rfl) rfl (Mn hK f2) (gA hd rfl) (Mq Ph) (Yp n hB hT hK hF hd cN k0 k1 f0 f1 f2 l1 Ms l2)
theorem ue(n S:Nat){pk dc st gy:V}{now:Int}{g:List (Nat × V)}{zone:Int}{t:V}{σ σ':aa}(h:σ[S]? =some (aq pk (.int now) dc st gy (.loc 0) g))(hl:af P0 n 28 [.loc 0,.int zone,t,.int now] σ=some (.none,σ')):
  af P0 (n+1) 47 [.loc S,.int zone,t] σ=some (.bool false,σ'):=by
 exact nG (d:=Nv) rfl rfl λt=>t (gA h rfl) (gA h rfl) hl rfl
theorem Gv(n S:Nat){pk dc st gy:V}{now:Int}{g:List (Nat × V)}(hg:g.length≤800){zone:Int}{t:V}{σ:aa}{d:Dt}{tl:Nat}{dir:Int}(h:σ[S]? =some (aq pk (.int now) dc st gy (.loc 0) g))
  (hl:af P0 (n+1) 28 [.loc 0,.int zone,t,.int now] σ=some (.tup [.loc tl,.int dir],σ))(hd:σ[tl]? =some (aK d))(IV:dir=0∨dir=1)(h1:d.st &&& 1=0):
  af P0 (n+2) 47 [.loc S,.int zone,t] σ=some (.bool true,σ.set S (aq pk (.int now) (.loc tl) (.int (if dir=1∨d.st &&& 2≠0 then 2 else 8)) (.int dir) (.loc 0) g)):=by
 have e:=λa b d=>Pf n S a b d h hg
 have Nf:jq .band (.int (d.st:Nat)) (.int 1)=some (.int 0):=aj (λx:Nat=>some (V.int x)) h1
 clear h1 hg
 rcases IV with rfl|rfl
 ·by_cases h2:d.st &&& 2=0
  ·have h2':jq .band (.int (d.st:Nat)) (.int 2)=some (.int 0):=aj (λx:Nat=>some (V.int x)) h2
   refine ay (aB (λz=>z.elim (λz=>nomatch z) (λz=>z h2))) (?_)
   exact nG (d:=Nv) rfl rfl λt=>t (gA h rfl) (gA h rfl) hl rfl rfl (gA hd rfl) h2' rfl (gA hd rfl) Nf rfl (e _ _ _)
  ·have h2':¬((d.st &&& 2:Nat):Int)=0:=by exact λbT=>qq [_] [.e 1 vA (.num 0),.s 1 (.num 0) vA] aI bT (Int.ofNat_lt.mpr (Nat.pos_of_ne_zero h2))
   refine ay (aC (.inr h2)) (?_)
   exact nG (d:=Nv) rfl rfl λt=>t (gA h rfl) (gA h rfl) hl rfl rfl (gA hd rfl) rfl (neT h2') (e _ _ _)
 ·refine ay (aC (.inl rfl)) (?_)
  exact nG (d:=Nv) rfl rfl λt=>t (gA h rfl) (gA h rfl) hl rfl rfl (e _ _ _)
theorem Yq(n:Nat){last:Int}{zone t now:V}{σ:aa}(hB:σ[0]? =some (di last)):af P0 (n+1) 42 [.loc 0,zone,t,now] σ=some (.none,σ):=by
 exact nG (d:=Uj) rfl rfl λt=>t (gA hB rfl) rfl rfl rfl
theorem Yr(n S tl:Nat){last:Int}{d:Dt}{pk now dc st gy:V}{g:List (Nat × V)}{zone:V}{σ:aa}(hB:σ[0]? =some (di last))(h:σ[S]? =some (aq pk now dc st gy (.loc 0) g))(hd:σ[tl]? =some (aK d)):
  af P0 (n+2) 48 [.loc S,.loc tl,zone] σ=some (.bool false,σ):=by
 exact nG (d:=Ul) rfl rfl λt=>t (gA h rfl) (gA hd rfl) (gA h rfl) ((λzone t now=>Yq n (zone:=zone) (t:=t) (now:=now) hB) _ _ _) rfl
theorem Ys(n tl:Nat){d:Dt}{b p:V}{now:Int}{σ:aa}(hd:σ[tl]? =some (aK d)):af P0 (n+1) 29 [b,.loc tl,p,.int now] σ=some (.bool true,σ.set tl (aK {d with since:=now})):=by
 exact nG (d:=Ue) rfl rfl λt=>t (sA hd (aD rfl))
theorem Sz{a:Int}{l:List Int}:decide (V.int a∈l.map V.int)=decide (a∈l):=decide_eq_decide.mpr ⟨λh=>aA (eK h) λb hb e=>V.int.inj e▸hb,List.mem_map_of_mem⟩
theorem Vd(n tl:Nat){d:Dt}{b p:V}{now:Int}{σ:aa}(hd:σ[tl]? =some (aK d))(hx:0≤d.q.x):af P0 (n+1) 31 [b,.loc tl,p,.int now] σ=some (.bool (if d.q.ai=2 then decide (d.q.x/256∈[8,13,15,17]) else decide (d.q.x/256=128)),σ.set tl (aK {d with since:=now})):=by
 have e':jq .shr (.int d.q.x) (.int 8)=some (.int (d.q.x/256)):=aj (λx=>some (V.int x)) (Int.fdiv_eq_ediv_of_nonneg _ (fF _):d.q.x.fdiv 256=d.q.x/256)
 by_cases h2:d.q.ai=2
 ·refine ay (aC h2) (?_)
  have e2:∀σ,cX .isin (.int (d.q.x/256)) (.tup [.int 8,.int 13,.int 15,.int 17]) σ=some (decide (d.q.x/256∈[8,13,15,17])):=λσ=>aj some (Sz (l:=[8,13,15,17]))
  exact nG (d:=Q9) rfl rfl λt=>t (sA hd (aD rfl)) (gA (ja (In.of hd)) rfl) rfl (eqT h2) (gA (ja (In.of hd)) rfl) rfl e' (e2 _)
 ·refine ay (aB h2) (?_)
  have e2:∀σ,cX .isin (.int (d.q.x/256)) (.tup [.int 128]) σ=some (decide (d.q.x/256=128)):=λσ=>aj some (decide_eq_decide.mpr ⟨λh=>V.int.inj (List.mem_singleton.mp h),λh=>h▸List.mem_singleton.mpr rfl⟩)
  exact nG (d:=Q9) rfl rfl λt=>t (sA hd (aD rfl)) (gA (ja (In.of hd)) rfl) rfl (gn h2) (gA (ja (In.of hd)) rfl) rfl e' (e2 _)
theorem Ve(n tl:Nat){d:Dt}{b p r:V}{now:Int}{σ:aa}(hd:σ[tl]? =some (aK d)):af P0 (n+1) 32 [b,.loc tl,p,r,.int now] σ=some (.str 61,σ.set tl (aK {d with eF:=now+30000})):=by
 exact nG (d:=f32) rfl rfl λt=>t rfl (sA hd (aD rfl))
theorem Yt(n tl:Nat){d:Dt}{b p r:V}{now:Int}{σ:aa}(hd:σ[tl]? =some (aK d)):af P0 (n+1) 33 [b,.loc tl,p,r,.int now] σ=some (.str 61,σ.set tl (aK {d with eF:=now+600000})):=by
 exact nG (d:=Ug) rfl rfl λt=>t rfl (sA hd (aD rfl))
noncomputable def Pj(d:Dt)(now:Int):Dt:=if d.st &&& 2≠0∧d.since+2000<now then{d with eF:=now+120000,st:=d.st ||| 4} else{d with eF:=now+30000}
theorem Yu(n tl:Nat){d:Dt}{b p r:V}{now:Int}{σ:aa}(hd:σ[tl]? =some (aK d)):af P0 (n+1) 30 [b,.loc tl,p,r,.int now] σ=some (.str 61,σ.set tl (aK (Pj d now))):=by
 by_cases h1:d.st &&& 2=0
 ·have Nf:jq .band (.int (d.st:Nat)) (.int 2)=some (.int 0):=aj (λx:Nat=>some (V.int x)) h1
  rw[Pj,aB (λz=>z.1 h1)]
  exact nG (d:=Qo) rfl rfl λt=>t (gA hd rfl) Nf rfl rfl rfl (sA hd (aD rfl))
 ·have Nf:¬((d.st &&& 2:Nat):Int)=0:=by exact λbT=>qq [_] [.e 1 vA (.num 0),.s 1 (.num 0) vA] aI bT (Int.ofNat_lt.mpr (Nat.pos_of_ne_zero h1))
  by_cases h2:d.since+2000<now
  ·rw[Pj,aC ⟨h1,h2⟩]
   exact nG (d:=Qo) rfl rfl λt=>t (gA hd rfl) rfl (Sx Nf) (gA hd rfl) rfl (Kq h2) rfl (sA hd (aD rfl)) (gA (ja (In.of hd)) rfl) rfl (rD (In.of hd) (aD rfl))
  ·rw[Pj,aB (λz=>h2 z.2)]
   exact nG (d:=Qo) rfl rfl λt=>t (gA hd rfl) rfl (Sx Nf) (gA hd rfl) rfl (IU h2) rfl (sA hd (aD rfl))
noncomputable def bV(ai kind:Int):Int:=
 if ai=2 then(if kind=8 then 0 else if kind=0 then 8 else if kind=13 then 14 else if kind=14 then 13 else if kind=15 then 16 else if kind=16 then 15 else if kind=17 then 18 else if kind=18 then 17 else-1)
 else(if kind=128 then 129 else if kind=129 then 128 else-1)
theorem Vf(n:Nat)(ai kind:Int)(σ:aa):af P0 (n+1) 20 [.int ai,.int kind] σ=some (.int (bV ai kind),σ):=by
 by_cases h:ai=2
 ·subst h
  by_cases h8:kind=8
  ·subst h8;rfl
  by_cases h0:kind=0
  ·subst h0;rfl
  by_cases qj:kind=13
  ·subst qj;rfl
  by_cases rE:kind=14
  ·subst rE;rfl
  by_cases cN:kind=15
  ·subst cN;rfl
  by_cases SG:kind=16
  ·subst SG;rfl
  by_cases rQ:kind=17
  ·subst rQ;rfl
  by_cases SH:kind=18
  ·subst SH;rfl
  have ha:bV 2 kind= -1:=(aC rfl).trans ((aB h8).trans ((aB h0).trans ((aB qj).trans ((aB rE).trans ((aB cN).trans ((aB SG).trans ((aB rQ).trans (aB SH))))))))
  refine ha▸ ?_
  exact nG (d:=Nt) (ρ:=[some (.int 2),some (.int kind),none,none,none]) rfl rfl λφ=>φ rfl (gn h8) (gn h0) (gn qj) (gn rE) (gn cN) (gn SG) (gn rQ) (gn SH)
 ·by_cases h1:kind=128
  ·subst h1;rw[show bV ai 128=129 from aB h];exact nG (d:=Nt) rfl rfl λφ=>φ (gn h) rfl
  by_cases h2:kind=129
  ·subst h2;rw[show bV ai 129=128 from aB h];exact nG (d:=Nt) rfl rfl λφ=>φ (gn h) rfl rfl
  refine(show bV ai kind= -1 from(aB h).trans ((aB h1).trans (aB h2)))▸ ?_
  exact nG (d:=Nt) rfl rfl λφ=>φ (gn h) (gn h1) (gn h2)
theorem Gw(ai kind:Int): -1≤bV ai kind∧bV ai kind≤129:=by
 unfold bV
 repeat' split
 all_goals lia
noncomputable def qF(ai proto:Int):Bool:=(decide (ai=2)&&decide (proto=1))||(decide (ai=10)&&decide (proto=58))
theorem DJ(n:Nat){ai proto a1 p1 a2 p2:Int}(h:qF ai proto=false)(σ:aa):af P0 (n+2) 25 [.tup [.int ai,.int proto,.int a1,.int p1,.int a2,.int p2]] σ=some (.tup [.int ai,.int proto,.int a2,.int p2,.int a1,.int p1],σ):=by
 have e:=Pe n ai proto
 rw[qF] at h
 simp only[h] at e
 exact nG (d:=Qm) rfl rfl λt=>t (e _)
theorem zE(n:Nat){ai proto a1 p1 a2 x:Int}(h:qF ai proto=true)(hx:0≤x)(σ:aa):af P0 (n+2) 25 [.tup [.int ai,.int proto,.int a1,.int p1,.int a2,.int x]] σ=
  some (if bV ai (x/256)<0 then .none else .tup [.int ai,.int proto,.int a2,.int p1,.int a1,.int (bV ai (x/256)*256+((x.toNat &&& 255:Nat):Int))],σ):=by
 have e:=Pe n ai proto
 have e2:=λσ=>Vf n ai (x/256) σ
 have ed:jq .shr (.int x) (.int 8)=some (.int (x/256)):=aj (λz=>some (V.int z)) (Int.fdiv_eq_ediv_of_nonneg _ (by decide))
 rw[qF] at h
 simp only[h] at e
 by_cases hk:bV ai (x/256)<0
 ·refine ay (aC hk) (?_)
  exact nG (d:=Qm) (ρ:=[some (.tup [.int ai,.int proto,.int a1,.int p1,.int a2,.int x]),none,none,none,none,none,none,none]) rfl rfl λφ=>φ (e _) ed (e2 _) (Mp hk)
 ·refine ay (aB hk) (?_)
  have s1:jq .mul (.int (bV ai (x/256))) (.int 256)=some (.int (bV ai (x/256)*256)):=by
   have:=Gw ai (x/256)
   have k:gY (bV ai (x/256))=true:=Bool.and_eq_true_iff.mpr ⟨fk (by omega),fk (by omega)⟩
   exact aj (Option.map V.int) (aC (Bool.and_eq_true_iff.mpr ⟨k,by decide⟩))
  have s2:jq .band (.int x) (.int 255)=some (.int ((x.toNat &&& 255:Nat):Int)):=aj (Option.map V.int) (aC ⟨hx,by decide⟩)
  exact nG (d:=Qm) (ρ:=[some (.tup [.int ai,.int proto,.int a1,.int p1,.int a2,.int x]),none,none,none,none,none,none,none]) rfl rfl λφ=>φ (e _) ed (e2 _) (Eb hk) s1 s2 rfl
theorem Gx(n S:Nat){pk dc st gy:V}{now:Int}{g:List (Nat × V)}(hg:g.length≤800){zone:V}{t:V}{tr:V}{σ:aa}(h:σ[S]? =some (aq pk (.int now) dc st gy (.loc 0) g))
  (hI:∀σ,af P0 (n+1) 25 [t] σ=some (.none,σ)):af P0 (n+2) 49 [.loc S,tr,zone,t] σ=some (.none,σ.set S (aq pk (.int now) .none (.int 1) (.int 0) (.loc 0) g)):=by
 exact nG (d:=Qp) rfl rfl λt=>t (gA h rfl) (Pf n S .none (.int 1) (.int 0) h hg) (hI _) rfl
theorem Yv(n:Nat){num t b zone:V}{σ:aa}:af P0 (n+1) 16 [.loc σ.length,num,t,b,zone] (σ++[.inst 16 []])=some (.none,σ++[.inst 16 [(26,num),(27,t),(28,b),(29,zone),(30,.int 0),(31,.int 0),(4,.int 0),(32,.int 0),(33,.int 0),(34,.none),(35,.int 0)]]):=by
 exact nG (d:=Uc) rfl rfl λt=>t (uc rfl (aD rfl)) (uc rfl (aD rfl)) (uc rfl (aD rfl)) (uc rfl (aD rfl)) (uc rfl (aD rfl)) (uc rfl (aD rfl)) (uc rfl (aD rfl)) (uc rfl (aD rfl)) (uc rfl (aD rfl)) (uc rfl (aD rfl)) (uc rfl (aD rfl))
theorem SI(n S:Nat){pk:V}{now:Int}{g:List (Nat × V)}(hg:g.length≤800){q:Q}{tr:Nat}{τ:aa}{m:Int}{bg:Nat}{rt:List (V × V)}{ok:Bool}(h:τ[S]? =some (aq pk (.int now) .none (.int 1) (.int 0) (.loc 0) g))
  (hB:τ[0]? =some (di m))(ht:τ[tr]? =some (.dict 2 ((.str 75,.fn bg)::rt)))
  (SJ:∀(τ:aa)(d:Dt) tl,d.q=q→τ[tl]? =some (aK d)→af P0 (n+2) bg [.loc 0,.loc tl,pk,.int now] τ=some (.bool ok,τ.set tl (aK {d with since:=now}))):
  ∃ρ',aP (af P0 (n+2)) [some (.loc S),some (.loc tr),some (.int q.zone),some q.t,some (.loc 0),some q.b,none] (Um.drop 6) τ=some (.ret .none,ρ',(if ok then τ.set S (aq pk (.int now) (.loc τ.length) (.int 8) (.int 0) (.loc 0) g) else τ)++[aK ⟨q,m,now,0,0,false⟩]):=by
 have e6:=Yv (n+1) (num:= .int m) (t:=q.t) (b:=q.b) (zone:= .int q.zone) (σ:=τ)
 have hx:(τ++[aK ⟨q,m,now,0,0,false⟩])[τ.length]? =some (aK ⟨q,m,now,0,0,false⟩):=uU rfl
 have e3:=(SJ _ _ _ rfl hx).trans (aj (λz=>some (V.bool ok,z)) (fh _ _ _ _ rfl))
 have hs:sM (.loc τ.length) 31 (.int now) (τ++[.inst 16 [(26,.int m),(27,q.t),(28,q.b),(29,.int q.zone),(30,.int 0),(31,.int 0),(4,.int 0),(32,.int 0),(33,.int 0),(34,.none),(35,.int 0)]])=some (τ++[aK ⟨q,m,now,0,0,false⟩]):=uc rfl (aD rfl)
 cases ok
 ·refine⟨[some (.loc S),some (.loc tr),some (.int q.zone),some q.t,some (.loc 0),some q.b,some (.loc τ.length)],?_⟩
  exact nH λφ=>φ (gA hB rfl) e6 (gA (bF h) rfl) hs (bq (bF ht) rfl) (gA (bF h) rfl) (gA (bF h) rfl) e3
 ·refine⟨[some (.loc S),some (.loc tr),some (.int q.zone),some q.t,some (.loc 0),some q.b,some (.loc τ.length)],?_⟩
  exact nH λφ=>φ (gA hB rfl) e6 (gA (bF h) rfl) hs (bq (bF ht) rfl) (gA (bF h) rfl) (gA (bF h) rfl) e3 (Yr n S _ (zone:= .int q.zone) (bF hB) (bF h) hx) ((Pf (n+1) S (.loc τ.length) (.int 8) (.int 0) (bF (τ:=[aK ⟨q,m,now,0,0,false⟩]) h) hg).trans (aj (λz=>some (V.none,z)) (xJ _ _ _ _ (In.of h))))
theorem Vg(n S:Nat){pk dc st gy:V}{now:Int}{g:List (Nat × V)}(hg:g.length≤800){q:Q}{tr:Nat}{σ:aa}{last:Int}{dR:List (V × V)}{kK bg:Nat}{rt:List (V × V)}{ok:Bool}(SK:S≠0)(yc:S≠2)(hSt:S≠tr)(ht0:tr≠0)(h:σ[S]? =some (aq pk (.int now) dc st gy (.loc 0) g))
  (hI:∀σ,af P0 (n+2) 25 [q.t] σ=some (q.b,σ))(hB:σ[0]? =some (di last))(hK:σ[2]? =some (.dict kK dR))(hk:kK≤1)(hl:dR.length<64)(ht:σ[tr]? =some (.dict 2 ((.str 75,.fn bg)::rt)))
  (SJ:∀(τ:aa)(d:Dt) tl,d.q=q→τ[tl]? =some (aK d)→af P0 (n+2) bg [.loc 0,.loc tl,pk,.int now] τ=some (.bool ok,τ.set tl (aK {d with since:=now}))):
  af P0 (n+3) 49 [.loc S,.loc tr,.int q.zone,q.t] σ=some (.none,if ok then(σ.set 0 (di (last+1))).set S (aq pk (.int now) (.loc σ.length) (.int 8) (.int 0) (.loc 0) g)++[aK ⟨q,last+1,now,0,0,false⟩]
   else(σ.set 0 (di (last+1))).set S (aq pk (.int now) .none (.int 1) (.int 0) (.loc 0) g)++[aK ⟨q,last+1,now,0,0,false⟩]):=by
 have jS:=In.of h
 have e0:=Pf (n+1) S .none (.int 1) (.int 0) h hg
 have tB:(σ.set S (aq pk (.int now) .none (.int 1) (.int 0) (.loc 0) g))[0]? =some (di last):=gb SK hB
 have tK:(σ.set S (aq pk (.int now) .none (.int 1) (.int 0) (.loc 0) g))[2]? =some (.dict kK dR):=gb yc hK
 have mh:dR.length≤100000:=by exact cP [_] 1 vA (.num 100000) [.s 1 vA (.num 64)] aI hl
 have hl3:¬(64:Int)≤dR.length:=by exact Int.not_le.mpr (ltI [_] 1 vA (.num 64) [.s 1 vA (.num 64)] aI (Int.ofNat_lt.mpr hl))
 have hs:sM (.loc 0) 41 (.int (last+1)) (σ.set S (aq pk (.int now) .none (.int 1) (.int 0) (.loc 0) g))=some ((σ.set 0 (di (last+1))).set S (aq pk (.int now) .none (.int 1) (.int 0) (.loc 0) g)):=(sA tB (aD rfl)).trans (aj some (List.set_comm _ _ SK))
 have hr:=SI n S hg (q:=q) (ok:=ok) (ja (iS jS)) ((gb SK (ja (In.of hB)):((σ.set 0 (di (last+1))).set S (aq pk (.int now) .none (.int 1) (.int 0) (.loc 0) g))[0]? =some (di (last+1)))) (gb hSt (gb ht0.symm ht)) SJ
 refine hr.elim λρ' hr=>?_
 have hz:((σ.set 0 (di (last+1))).set S (aq pk (.int now) .none (.int 1) (.int 0) (.loc 0) g)).length=σ.length:=(List.length_set ..).trans (List.length_set ..)
 cases ok
 ·exact IS (d:=Qp) 6 rfl rfl λφ=>φ (gA h rfl) e0 (hI _) rfl (gA tB rfl) (O6 tK (by exact hk) mh) (gA tB rfl) (QM hl3) (gA tB rfl) rfl hs hr
 ·have hr:=hr.trans (aj (λz=>some (Fl.ret V.none,ρ',z++[aK ⟨q,last+1,now,0,0,false⟩])) ((List.set_set ..).trans (aj (λz=>(σ.set 0 (di (last+1))).set S (aq pk (.int now) (.loc z) (.int 8) (.int 0) (.loc 0) g)) hz)))
  exact IS (d:=Qp) 6 rfl rfl λφ=>φ (gA h rfl) e0 (hI _) rfl (gA tB rfl) (O6 tK (by exact hk) mh) (gA tB rfl) (QM hl3) (gA tB rfl) rfl hs hr
noncomputable def mark(d:Dt)(dir:Int):Dt:=if dir=1 then{d with st:=d.st ||| 2} else d
theorem Gy(n S:Nat){pk dc st gy:V}{now:Int}{g:List (Nat × V)}{zone:Int}{t:V}{σ:aa}{d d':Dt}{tr tl go:Nat}{IW:V}{rt:List (V × V)}{dir s2:Int}(hSt:S≠tr)(IV:dir=0∨dir=1)
  (h:σ[S]? =some (aq pk (.int now) dc st gy (.loc 0) g))
  (hf:af P0 n 47 [.loc S,.int zone,t] σ=some (.bool true,σ.set S (aq pk (.int now) (.loc tl) (.int s2) (.int dir) (.loc 0) g)))
  (ht:σ[tr]? =some (.dict 2 ((.str 75,IW)::(.str 77,.fn go)::rt)))(hd:σ[tl]? =some (aK d))(Mt:S≠tl)
  (hgo:∀(τ:aa),τ[tl]? =some (aK d)→af P0 n go [.loc 0,.loc tl,pk,.int dir,.int now] τ=some (.str 61,τ.set tl (aK d'))):
  af P0 (n+1) 50 [.loc S,.loc tr,.int zone,t] σ=some (.none,(σ.set S (aq pk (.int now) (.loc tl) (.int s2) (.int dir) (.loc 0) g)).set tl (aK (mark d' dir))):=by
 have jS:=In.of h
 have jl:=In.of hd
 have e:=hgo (σ.set S (aq pk (.int now) (.loc tl) (.int s2) (.int dir) (.loc 0) g)) (gb Mt hd)
 have yc:((σ.set S (aq pk (.int now) (.loc tl) (.int s2) (.int dir) (.loc 0) g)).set tl (aK d'))[S]? =some (aq pk (.int now) (.loc tl) (.int s2) (.int dir) (.loc 0) g):=gb Mt.symm (ja jS)
 have hT:((σ.set S (aq pk (.int now) (.loc tl) (.int s2) (.int dir) (.loc 0) g)).set tl (aK d'))[tl]? =some (aK d'):=ja (iS jl)
 clear hgo
 rcases IV with rfl|rfl
 ·exact nG (d:=Nx) rfl rfl λφ=>φ (gA h rfl) rfl hf (bq (gb hSt ht) rfl) (gA (ja jS) rfl) (gA (ja jS) rfl) (gA (ja jS) rfl) (gA (ja jS) rfl) e rfl rfl rfl (gA yc rfl) rfl
 ·exact nG (d:=Nx) rfl rfl λφ=>φ (gA h rfl) rfl hf (bq (gb hSt ht) rfl) (gA (ja jS) rfl) (gA (ja jS) rfl) (gA (ja jS) rfl) (gA (ja jS) rfl) e rfl rfl rfl (gA yc rfl) rfl (gA yc rfl) (gA hT rfl) rfl (gA yc rfl) (rD (iS jl) (aD rfl))
theorem zF(n S:Nat){pk dc st gy:V}{now:Int}{g:List (Nat × V)}{zone:V}{t:V}{σ σ1 σ2:aa}{tr:Nat}{o1 o2:V}
  (h:σ[S]? =some (aq pk (.int now) dc st gy (.loc 0) g))
  (hf:af P0 n 47 [.loc S,zone,t] σ=some (.bool false,σ1))
  (hb:af P0 n 49 [.loc S,.loc tr,zone,t] σ1=some (.none,σ2))(h2:σ2[S]? =some (aq pk (.int now) .none o1 o2 (.loc 0) g)):
  af P0 (n+1) 50 [.loc S,.loc tr,zone,t] σ=some (.none,σ2):=by
 exact nG (d:=Nx) rfl rfl λt=>t (gA h rfl) rfl hf hb (gA h2 rfl) rfl
theorem IX(n S:Nat){pk dc st gy:V}{now:Int}{g:List (Nat × V)}{zone:V}{t:V}{σ σ1 σ2:aa}{d d':Dt}{tr tl go:Nat}{IW:V}{rt:List (V × V)}{s2:Int}(Mt:S≠tl)
  (h:σ[S]? =some (aq pk (.int now) dc st gy (.loc 0) g))
  (hf:af P0 n 47 [.loc S,zone,t] σ=some (.bool false,σ1))
  (hb:af P0 n 49 [.loc S,.loc tr,zone,t] σ1=some (.none,σ2))(h2:σ2[S]? =some (aq pk (.int now) (.loc tl) (.int s2) (.int 0) (.loc 0) g))
  (ht:σ2[tr]? =some (.dict 2 ((.str 75,IW)::(.str 77,.fn go)::rt)))(hd:σ2[tl]? =some (aK d))
  (hgo:∀(τ:aa),τ[tl]? =some (aK d)→af P0 n go [.loc 0,.loc tl,pk,.int 0,.int now] τ=some (.str 61,τ.set tl (aK d'))):
  af P0 (n+1) 50 [.loc S,.loc tr,zone,t] σ=some (.none,σ2.set tl (aK d')):=by
 exact nG (d:=Nx) rfl rfl λt=>t (gA h rfl) rfl hf hb (gA h2 rfl) rfl (bq ht rfl) (gA h2 rfl) (gA h2 rfl) (gA h2 rfl) (gA h2 rfl) (hgo _ hd) rfl rfl rfl (gA (gb Mt.symm h2) rfl) rfl
noncomputable def IY(proto:Int):Nat:=if proto=17 then 5 else if proto=1 then 7 else if proto=58 then 8 else 10
noncomputable def qG:O:= .dict 1 [(.int 17,.loc 5),(.int 1,.loc 7),(.int 58,.loc 8),(.int (-1),.loc 10)]
theorem SM(n:Nat){last proto:Int}{σ:aa}(hB:σ[0]? =some (di last))(h3:σ[3]? =some qG)(hp:proto=17∨proto=1∨proto=58∨proto=47):af P0 (n+1) 43 [.loc 0,.int proto] σ=some (.loc (IY proto),σ):=by
 rcases hp with rfl|rfl|rfl|rfl
 ·exact nG (d:=Nu) rfl rfl λφ=>φ (gA hB rfl) (Nd h3 rfl) (gA hB rfl) (Mn h3 rfl)
 ·exact nG (d:=Nu) rfl rfl λφ=>φ (gA hB rfl) (Nd h3 rfl) (gA hB rfl) (Mn h3 rfl)
 ·exact nG (d:=Nu) rfl rfl λφ=>φ (gA hB rfl) (Nd h3 rfl) (gA hB rfl) (Mn h3 rfl)
 ·exact nG (d:=Nu) rfl rfl λφ=>φ (gA hB rfl) (Yl h3 rfl) (gA hB rfl) (Nd h3 rfl) (gA hB rfl) (Mn h3 rfl)
noncomputable def cO(l:List Nat)(ai l4 off place:Int)(mt:V):O:= .inst 7 [(13,.aM l),(15,.aM []),(16,.int (if ai=2 then 2048 else 34525)),(17,.int l4),(18,.int off),(19,.int place),(20,mt)]
theorem AR(n p:Nat){l:List Nat}{ai l4 off place:Int}{mt:V}{σ:aa}(h:σ[p]? =some (cO l ai l4 off place mt))(hf:ai=2∨ai=10):af P0 (n+1) 10 [.loc p] σ=some (.int ai,σ):=by
 rcases hf with rfl|rfl
 ·exact nG (d:=Q3) rfl rfl λφ=>φ (gA h rfl) (eqT (rfl))
 ·exact nG (d:=Q3) rfl rfl λφ=>φ (gA h rfl) (gn (by decide)) (gA h rfl) (eqT (rfl))
theorem Gz(n p:Nat){l:List Nat}{ai l4 off place:Int}{mt:V}{σ:aa}(h:σ[p]? =some (cO l ai l4 off place mt))(hf:ai=2∨ai=10)(ho:off<0):af P0 (n+2) 23 [.loc p] σ=some (.none,σ):=by
 exact nG (d:=Q6) rfl rfl λφ=>φ (AR n p h hf) ((λσ=>by rcases hf with rfl|rfl<;>rfl:∀σ,cX .sf (.int ai) (.tup [.int 2,.int 10]) σ=some false) _) (gA h rfl) (Mp ho)
theorem SN(n p:Nat){l:List Nat}{ai l4 off place:Int}{mt t:V}{σ:aa}(h:σ[p]? =some (cO l ai l4 off place mt))(hf:ai=2∨ai=10)(ho:¬off<0)
  (ht:∀σ,af P0 (n+1) 22 [.aM l,.int ai,.int l4,.int off] σ=some (t,σ)):af P0 (n+2) 23 [.loc p] σ=some (t,σ):=by
 exact nG (d:=Q6) rfl rfl λφ=>φ (AR n p h hf) ((λσ=>by rcases hf with rfl|rfl<;>rfl:∀σ,cX .sf (.int ai) (.tup [.int 2,.int 10]) σ=some false) _) (gA h rfl) (Eb ho) (gA h rfl) (gA h rfl) (gA h rfl) (ht _)
noncomputable def SQ(ai:Int):List V:=if ai=2 then [.int 3,.int 4,.int 5,.int 11,.int 12] else [.int 1,.int 2,.int 3,.int 4]
noncomputable def uf(ai:Int)(kind:Nat):Bool:=decide (V.int kind∈SQ ai)
theorem Yw(n:Nat)(ai:Int)(kind:Nat)(σ:aa):af P0 (n+2) 19 [.int ai,.int kind] σ=some (.bool (uf ai kind),σ):=by
 by_cases h:ai=2
 ·subst h;exact nG (d:=Q5) (ρ:=[some (.int 2),some (.int kind)]) rfl rfl λφ=>φ (nG (d:=Q4) (ρ:=[some (.int 2)]) rfl rfl λφ=>φ rfl) rfl
 ·have e:uf ai kind=decide (V.int kind∈[V.int 1,.int 2,.int 3,.int 4]):=aj (λl=>decide (V.int kind∈l)) (aB h)
  refine ay e (?_)
  exact nG (d:=Q5) (ρ:=[some (.int ai),some (.int kind)]) rfl rfl λφ=>φ (nG (d:=Q4) (ρ:=[some (.int ai)]) rfl rfl λφ=>φ (gn h)) rfl
theorem Pk(n p:Nat){l:List Nat}{ai l4 off place:Int}{mt:V}{kind:Nat}{σ:aa}(h:σ[p]? =some (cO l ai l4 off place mt))(hf:ai=2∨ai=10)(hi:qF ai l4=true)(ho:0≤off)(ho2:off<l.length)(hl:l.length≤1000)(hk:l[off.toNat]? =some kind):
  af P0 (n+3) 35 [.loc p] σ=some (.bool (uf ai kind),σ):=by
 have e2:=Pe (n+1) ai l4
 rw[qF] at hi
 simp only[hi] at e2
 have ib:∀σ,cH (.aM l) (.int off) σ=some (.int kind):=λσ=>IT (aC ⟨ho,by exact ltI [_,_] 1 vA (.num 16777216) [.s 1 vA vB,.l 1 vB (.num 1000)] aI ho2 (gh hl)⟩) hk
 exact nG (d:=Ui) rfl rfl λφ=>φ (AR (n+1) p h hf) (gA h rfl) (e2 _) (gA h rfl) (Eb (kD ‹_›)) (gA h rfl) (gA h rfl) (ku (cV ‹_› (aD rfl))) (QM (Int.not_le.mpr ‹_›)) (gA h rfl) (gA h rfl) (ib _) ((Yw n ai kind) _)
theorem Bf(n p S:Nat){now dc st gy bk zone b:V}{g:List (Nat × V)}{σ:aa}(h:σ[S]? =some (aq (.loc p) now dc st gy bk g))(he:af P0 n 35 [.loc p] σ=some (.bool false,σ)):af P0 (n+1) 36 [b,.loc S,zone] σ=some (.bool false,σ):=by
 exact nG (d:=Ra) rfl rfl λt=>t (gA h rfl) he
theorem Vh(n p:Nat){l:List Nat}{ai l4 off place:Int}{mt b zone now:V}{σ:aa}(h:σ[p]? =some (cO l ai l4 off place mt))(hf:ai=2∨ai=10)(ho:0≤off)(ho2:off<1000)(hl:l.length≤1000)
  (hi:∀σ,af P0 (n+1) 24 [.aM (l.drop (off+8).toNat),.int ai] σ=some (.none,σ)):af P0 (n+2) 34 [b,.loc p,zone,now] σ=some (.none,σ):=by
 have h2:off+8<16777216:=by exact ltI [_] 1 (.add vA (.num 8)) (.num 16777216) [.s 1 vA (.num 1000)] aI ho2
 have sb:Na (.aM l) (.int (off+8))=some (.aM (l.drop (off+8).toNat)):=Sv (aC ⟨(by exact lD [_] 1 (.num 0) (.add vA (.num 8)) [.l 1 (.num 0) vA] aI ho),‹_›⟩) hl
 exact nG (d:=Uh) rfl rfl λφ=>φ (AR n p h hf) (gA h rfl) (gA h rfl) rfl sb (hi _) rfl
theorem Ca(n p S:Nat){now dc st gy bk zone b:V}{g:List (Nat × V)}(hg:g.length≤800){σ:aa}(h:σ[S]? =some (aq (.loc p) now dc st gy bk g))(he:af P0 n 35 [.loc p] σ=some (.bool true,σ))(Pn:af P0 n 34 [b,.loc p,zone,now] σ=some (.none,σ)):af P0 (n+1) 36 [b,.loc S,zone] σ=some (.bool true,σ.set S (aq (.loc p) now .none (.int 1) (.int 0) bk g)):=by
 have iS:=In.of h
 have hl':g.length+1+1+1+1+1+1+1≤900:=by exact cP [_] 1 (.add (.add (.add (.add (.add (.add (.add vA (.num 1)) (.num 1)) (.num 1)) (.num 1)) (.num 1)) (.num 1)) (.num 1)) (.num 900) [.l 1 vA (.num 800)] aI hg
 exact nG (d:=Ra) rfl rfl λt=>t (gA h rfl) he (gA h rfl) (gA h rfl) Pn rfl (sA h hl') (rD iS hl') (rD iS hl')
theorem GA(n p S:Nat){l:List Nat}{l4 off place:Int}{mt:V}{kind:Nat}{now dc st gy bk zone b r:V}{g:List (Nat × V)}{σ τ:aa}(h:σ[S]? =some (aq (.loc p) now dc st gy bk g))
  (hp:σ[p]? =some (cO l 10 l4 off place mt))(ho:0≤off)(ho2:off+8≤l.length)(hl:l.length≤1000)(hk:l[off.toNat]? =some kind)(hn:kind∉[130,131,132,133,134,135,136,143])
  (Yx:af P0 (n+1) 36 [b,.loc S,zone] σ=some (r,τ)):af P0 (n+2) 37 [b,.loc S,zone] σ=some (r,τ):=by
 have e:=AR n p hp (.inr rfl)
 have h1:off≤(l.length:Int)-8:=by exact lD [_,_] 1 vA (.sub vB (.num 8)) [.l 1 (.add vA (.num 8)) vB] aI ho2
 have h3:off<16777216:=by exact ltI [_,_] 1 vA (.num 16777216) [.l 1 vA (.sub vB (.num 8)),.l 1 vB (.num 1000)] aI h1 (gh hl)
 have h4:l.length≤100000:=by exact cP [_] 1 vA (.num 100000) [.l 1 vA (.num 1000)] aI hl
 have ib:∀σ,cH (.aM l) (.int off) σ=some (.int _):=λσ=>IT (aC ⟨ho,by exact h3⟩) hk
 have im:∀σ,cX .isin (.int kind) (.tup [.int 130,.int 131,.int 132,.int 133,.int 134,.int 135,.int 136,.int 143]) σ=some false:=λσ=>aj some (gM λ(hm:V.int kind∈[130,131,132,133,134,135,136,143].map λm:Nat=>V.int (m:Int))=>by
  obtain⟨m,hm,e⟩:=eK hm
  exact hn (Int.ofNat.inj (V.int.inj e)▸hm))
 exact nG (d:=Rb) rfl rfl λφ=>φ (gA h rfl) e rfl (gA hp rfl) (Mq ho) (gA hp rfl) (ku h4) rfl (Mq h1) (gA hp rfl) (gA hp rfl) (ib _) (im _) Yx
theorem GB(n p S:Nat){l:List Nat}{l4 off place:Int}{mt:V}{now dc st gy bk zone b:V}{g:List (Nat × V)}(hg:g.length≤800){σ:aa}(h:σ[S]? =some (aq (.loc p) now dc st gy bk g))
  (hp:σ[p]? =some (cO l 10 l4 off place mt))(Zw:S≠p)(ho:0≤off)(ho2:off+8≤l.length)(hl:l.length≤1000)(hk:l[off.toNat]? =some 135)
  :af P0 (n+2) 37 [b,.loc S,zone] σ=some (.bool true,σ.set S (aq (.loc p) now .none (.int 64) (.int 0) bk g)):=by
 have e:=AR n p hp (.inr rfl)
 have iS:=In.of h
 have hl':g.length+1+1+1+1+1+1+1≤900:=by exact cP [_] 1 (.add (.add (.add (.add (.add (.add (.add vA (.num 1)) (.num 1)) (.num 1)) (.num 1)) (.num 1)) (.num 1)) (.num 1)) (.num 900) [.l 1 vA (.num 800)] aI hg
 have h1:off≤(l.length:Int)-8:=by exact lD [_,_] 1 vA (.sub vB (.num 8)) [.l 1 (.add vA (.num 8)) vB] aI ho2
 have h3:off<16777216:=by exact ltI [_,_] 1 vA (.num 16777216) [.l 1 vA (.sub vB (.num 8)),.l 1 vB (.num 1000)] aI h1 (gh hl)
 have h4:l.length≤100000:=by exact cP [_] 1 vA (.num 100000) [.l 1 vA (.num 1000)] aI hl
 have ib:∀σ,cH (.aM l) (.int off) σ=some (.int _):=λσ=>IT (aC ⟨ho,by exact h3⟩) hk
 exact nG (d:=Rb) rfl rfl λφ=>φ (gA h rfl) e rfl (gA hp rfl) (Mq ho) (gA hp rfl) (ku h4) rfl (Mq h1) (gA hp rfl) (gA hp rfl) (ib _) rfl (sA h hl') (rD iS hl') (rD iS hl')
theorem IZ(n S:Nat){pk now dc gy bk zone:V}{g:List (Nat × V)}{σ:aa}(h:σ[S]? =some (aq pk now dc (.int 64) gy bk g)):af P0 (n+1) 51 [.loc S,zone] σ=some (.none,σ):=by
 exact nG (d:=M9) rfl rfl λt=>t (gA h rfl) rfl
theorem I0(n p S:Nat){now dc gy bk zone:V}{g:List (Nat × V)}(hg:g.length≤800){σ:aa}(h:σ[S]? =some (aq (.loc p) now dc (.int 1) gy bk g))(h23:af P0 (n+1) 23 [.loc p] σ=some (.none,σ)):
  af P0 (n+2) 51 [.loc S,zone] σ=some (.none,σ.set S (aq (.loc p) now .none (.int 1) (.int 0) bk g)):=by
 have e:=Pf n S .none (.int 1) (.int 0) h hg
 exact nG (d:=M9) rfl rfl λt=>t (gA h rfl) rfl (gA h rfl) h23 rfl e
theorem v7(n p S:Nat){now dc gy zone r:V}{g:List (Nat × V)}{ai proto a1 p1 a2 x:Int}{tr:Nat}{IW Po:V}{σ τ:aa}(h:σ[S]? =some (aq (.loc p) now dc (.int 1) gy (.loc 0) g))
  (h23:af P0 n 23 [.loc p] σ=some (.tup [.int ai,.int proto,.int a1,.int p1,.int a2,.int x],σ))(zY:af P0 n 43 [.loc 0,.int proto] σ=some (.loc tr,σ))(ht:σ[tr]? =some (.dict 2 [(.str 75,IW),(.str 77,Po)]))
  (zZ:af P0 n 50 [.loc S,.loc tr,zone,.tup [.int ai,.int proto,.int a1,.int p1,.int a2,.int x]] σ=some (r,τ)):af P0 (n+1) 51 [.loc S,zone] σ=some (r,τ):=by
 exact nG (d:=M9) rfl rfl λt=>t (gA h rfl) rfl (gA h rfl) h23 rfl (gA h rfl) rfl zY (Su ht rfl) zZ
theorem xK(n p S:Nat){now dc gy zone:V}{g:List (Nat × V)}{ai proto a1 p1 a2 x:Int}{tr fe:Nat}{IW Po:V}{σ τ:aa}(h:σ[S]? =some (aq (.loc p) now dc (.int 1) gy (.loc 0) g))
  (h23:af P0 n 23 [.loc p] σ=some (.tup [.int ai,.int proto,.int a1,.int p1,.int a2,.int x],σ))(zY:af P0 n 43 [.loc 0,.int proto] σ=some (.loc tr,σ))(ht:σ[tr]? =some (.dict 2 [(.str 75,IW),(.str 77,Po),(.str 81,.fn fe)]))
  (he:af P0 n fe [.loc 0,.loc S,zone] σ=some (.bool true,τ)):af P0 (n+1) 51 [.loc S,zone] σ=some (.none,τ):=by
 exact nG (d:=M9) rfl rfl λt=>t (gA h rfl) rfl (gA h rfl) h23 rfl (gA h rfl) rfl zY (O9 ht rfl) (bq ht rfl) (gA h rfl) he
theorem ug(n p S:Nat){now dc gy zone r:V}{g:List (Nat × V)}{ai proto a1 p1 a2 x:Int}{tr fe:Nat}{IW Po:V}{σ τ:aa}(h:σ[S]? =some (aq (.loc p) now dc (.int 1) gy (.loc 0) g))
  (h23:af P0 n 23 [.loc p] σ=some (.tup [.int ai,.int proto,.int a1,.int p1,.int a2,.int x],σ))(zY:af P0 n 43 [.loc 0,.int proto] σ=some (.loc tr,σ))(ht:σ[tr]? =some (.dict 2 [(.str 75,IW),(.str 77,Po),(.str 81,.fn fe)]))
  (he:af P0 n fe [.loc 0,.loc S,zone] σ=some (.bool false,σ))
  (zZ:af P0 n 50 [.loc S,.loc tr,zone,.tup [.int ai,.int proto,.int a1,.int p1,.int a2,.int x]] σ=some (r,τ)):af P0 (n+1) 51 [.loc S,zone] σ=some (r,τ):=by
 exact nG (d:=M9) rfl rfl λt=>t (gA h rfl) rfl (gA h rfl) h23 rfl (gA h rfl) rfl zY (O9 ht rfl) (bq ht rfl) (gA h rfl) he zZ
theorem GC(n S:Nat){pk now st gy:V}{g:List (Nat × V)}{σ:aa}(h:σ[S]? =some (aq pk now .none st gy (.loc 0) g)):af P0 (n+1) 52 [.loc S] σ=some (.none,σ):=by
 exact nG (d:=Ny) rfl rfl λt=>t (gA h rfl) (gA h rfl) rfl
theorem I5(n S tl:Nat){pk now st gy:V}{g:List (Nat × V)}{σ:aa}{d:Dt}(h:σ[S]? =some (aq pk now (.loc tl) st gy (.loc 0) g))(hd:σ[tl]? =some (aK d))(h8:d.st &&& 8≠0):af P0 (n+1) 52 [.loc S] σ=some (.none,σ):=by
 exact nG (d:=Ny) rfl rfl λt=>t (gA h rfl) (gA h rfl) rfl (gA hd rfl) rfl (neT (nz h8))
theorem GD(n S tl:Nat){pk st gy v:V}{now:Int}{g:List (Nat × V)}{σ:aa}{d:Dt}(h:σ[S]? =some (aq pk (.int now) (.loc tl) st gy (.loc 0) g))(hd:σ[tl]? =some (aK d))(h8:d.st &&& 8=0)
  {u w:V}(hl:af P0 n 28 [.loc 0,.int d.q.zone,d.q.t,.int now] σ=some (.tup [u,w],σ)):af P0 (n+1) 52 [.loc S] σ=some (.tup [.str 100,.str 101],σ):=by
 exact nG (d:=Ny) rfl rfl λt=>t (gA h rfl) (gA h rfl) rfl (gA hd rfl) rfl (uT (zz h8)) (gA hd rfl) (gA hd rfl) (gA hd rfl) (gA h rfl) hl rfl
theorem GF(n S tl:Nat){pk st gy v:V}{now last:Int}{g:List (Nat × V)}{σ σ1 σ2:aa}{d:Dt}{kT kK:Nat}{tab dR:List (V × V)}(h:σ[S]? =some (aq pk (.int now) (.loc tl) st gy (.loc 0) g))(hd:σ[tl]? =some (aK d))(h8:d.st &&& 8=0)
  (hl:af P0 n 28 [.loc 0,.int d.q.zone,d.q.t,.int now] σ=some (.none,σ1))(h1:σ1[S]? =some (aq pk (.int now) (.loc tl) st gy (.loc 0) g))(hd1:σ1[tl]? =some (aK d))
  (mh:af P0 n 28 [.loc 0,.int d.q.zone,d.q.b,.int now] σ1=some (.none,σ2))(hd2:σ2[tl]? =some (aK d))(cN:15≤tl)
  (hB:σ2[0]? =some (di last))(hT:σ2[1]? =some (.dict kT tab))(hK:σ2[2]? =some (.dict kK dR))(z0:kT=0∨kT=3)(hkK:kK=0∨kK=1)(k0:kk d.q.k0=3)(k1:kk d.q.k1=3)(l1:tab.length<900)(Ms:(cA tab d.q.k0 (.tup [.int d.num,.int 0])).length<900)(l2:dR.length<900):
  af P0 (n+1) 52 [.loc S] σ=some (.none,((σ2.set 1 (.dict 3 (cA (cA tab d.q.k0 (.tup [.int d.num,.int 0])) d.q.k1 (.tup [.int d.num,.int 1])))).set 2 (.dict 1 (cA dR (.int d.num) (.loc tl)))).set tl (aK {d with st:=d.st ||| 8})):=by
 have i1:=In.of hT
 have i2:=In.of hK
 have i0:=In.of hB
 have il:=In.of hd2
 have n0:(0:Nat)≠tl:=by exact λbT=>bO [_] [.l 1 (.num 15) vA,.f 1 (.num 0) vA] aI cN bT
 have n1:(1:Nat)≠tl:=by exact λbT=>bO [_] [.l 1 (.num 15) vA,.f 1 (.num 1) vA] aI cN bT
 have n2:(2:Nat)≠tl:=by exact λbT=>bO [_] [.l 1 (.num 15) vA,.f 1 (.num 2) vA] aI cN bT
 have m1:tab.length<1000:=by exact ltN [_] 1 vA (.num 1000) [.s 1 vA (.num 900)] aI l1
 have SR:(cA tab d.q.k0 (.tup [.int d.num,.int 0])).length<1000:=by exact ltN [_] 1 vA (.num 1000) [.s 1 vA (.num 900)] aI Ms
 have m2:dR.length<1000:=by exact ltN [_] 1 vA (.num 1000) [.s 1 vA (.num 900)] aI l2
 have Yy:kT=0∨kT=kk d.q.k0:=by rw[k0];exact z0
 exact nG (d:=Ny) rfl rfl λt=>t (gA h rfl) (gA h rfl) rfl (gA hd rfl) rfl (uT (zz h8)) (gA hd rfl) (gA hd rfl) (gA hd rfl) (gA h rfl) hl rfl (gA hd1 rfl) (gA h1 rfl) mh rfl (gA hd2 rfl) (gA hB rfl) (gA hd2 rfl) (gA hd2 rfl) (QK hT z0 rfl m1) (gA (gb n1 hd2) rfl) (gA (gb (by decide) hB) rfl) (gA (gb n1 hd2) rfl) (gA (gb n1 hd2) rfl) (Sw i1 rfl SR) (gA (gb (by decide) hB) rfl) (gA (gb n1 hd2) rfl) (Ym (gb (by decide) hK) hkK m2) (gA (gb n2 (gb n1 hd2)) rfl) rfl (sA (gb n2 (gb n1 hd2)) (aD rfl))
noncomputable def Q.what(q:Q):V:= .tup [.int q.ai,.int q.proto,.int q.w3,.int q.w4]
noncomputable def Q.ends(q:Q):V:= .lst [.tup [.int q.a1,.int q.p1],.tup [.int q.a2,.int q.p2]]
noncomputable def Q.SV(q:Q):V:= .lst [.tup [.int q.a2,.int q.p2],.tup [.int q.a1,.int q.p1]]
noncomputable def bR(q:Q):O:= .dict 2 [(.str 29,.int q.zone),(.str 122,.bool q.eE),(.str 120,.bool false),(.str 121,.bool false),(.str 128,.bool false),(.str 117,q.what),(.str 118,q.ends),(.str 123,q.t),(.str 124,q.b)]
noncomputable def cj(d:Dt):O:= .dict 2 [(.str 29,.int d.q.zone),(.str 117,d.q.what),(.str 118,d.q.ends),(.str 123,d.q.t),(.str 124,d.q.b),(.str 26,.int d.num),(.str 31,.int d.since),(.str 32,.int (d.st:Nat)),(.str 133,.bool d.kept),(.str 30,.int d.eF)]
noncomputable def gq(r s:Q):Prop:=r.zone=s.zone∧r.ai=s.ai∧r.proto=s.proto∧r.w3=s.w3∧r.w4=s.w4
noncomputable def l8(r s:Q):Prop:=r.a1=s.a1∧r.p1=s.p1∧r.a2=s.a2∧r.p2=s.p2∧s.eE=false
noncomputable def m5(r s:Q):Prop:=r.a1=s.a2∧r.p1=s.p2∧r.a2=s.a1∧r.p2=s.p1∧¬((s.proto=1∨s.proto=58)∧s.eE=false)
noncomputable def Kr:List MS→List MS
 | .for _ _ b::_=>b
 |_=>[]
@[scoped simp] theorem Pp(x:Nat)(it:ME)(b r:List MS):Kr (.for x it b::r)=b:=rfl
noncomputable def iG:List MS:=Kr Ur
theorem Bg(call:Call){AO oN oO:V}{a b c:Option V}{r s:Nat}{d:Dt}{q:Q}{σ:aa}(hr:σ[r]? =some (cj d))(hs:σ[s]? =some (bR q))(hk:d.kept=false)(k:V)(now:V):
  aP call [some k,some (.loc s),some now,some (.loc r),b,c] iG σ=some (.cont,[some k,some (.loc s),some now,some (.loc r),b,c],σ):=by
 exact nH λφ=>φ (jd hr rfl hk)
theorem Bh(call:Call){b c:Option V}{r s:Nat}{d:Dt}{q:Q}{σ:aa}(hr:σ[r]? =some (cj d))(hs:σ[s]? =some (bR q))(hk:d.kept=true)(hw:¬gq d.q q)(k:V)(now:V):
  aP call [some k,some (.loc s),some now,some (.loc r),b,c] iG σ=some (.cont,[some k,some (.loc s),some now,some (.loc r),b,c],σ):=by
 by_cases hz:d.q.zone=q.zone
 ·have HB:¬[V.int d.q.ai,.int d.q.proto,.int d.q.w3,.int d.q.w4]=[V.int q.ai,.int q.proto,.int q.w3,.int q.w4]:=λh=>hw ⟨hz,by simpa using h⟩
  exact nH λφ=>φ (jd hr rfl hk) (bq hr rfl) (bq hs rfl) (uT hz) (bq hr rfl) (bq hs rfl) (Sy rfl rfl HB)
 ·exact nH λφ=>φ (jd hr rfl hk) (bq hr rfl) (bq hs rfl) (neT hz)
noncomputable def Q.el(q:Q):List V:=[.tup [.int q.a1,.int q.p1],.tup [.int q.a2,.int q.p2]]
noncomputable def Q.dl(q:Q):List V:=[.tup [.int q.a2,.int q.p2],.tup [.int q.a1,.int q.p1]]
noncomputable def QN(r s:Q):Bool:=decide (r.el=s.el)&& !s.eE
noncomputable def QO(r s:Q):Bool:=if decide (V.int s.proto∈[V.int 1,.int 58])&& !s.eE then false else decide (r.el=s.dl)
theorem xM{r s:Q}:QN r s=true↔l8 r s:=by simp[QN,Q.el,l8,and_assoc]
theorem xN{r s:Q}:QO r s=true↔m5 r s:=by
 unfold QO m5
 by_cases h:s.proto=1∨s.proto=58<;>cases s.eE<;>simp[h,(by simp[Q.el,Q.dl,and_assoc]:r.el=s.dl↔r.a1=s.a2∧r.p1=s.p2∧r.a2=s.a1∧r.p2=s.p1)]
theorem bf{b:Bool}{p:Prop}(h:b=true↔p)(n:¬p):b=false:=by cases b<;>simp_all
theorem qH(call:Call){b c:Option V}{r s:Nat}{d:Dt}{q:Q}{σ:aa}(hr:σ[r]? =some (cj d))(hs:σ[s]? =some (bR q))(hk:d.kept=true)(hw:gq d.q q)(k:V)(now:V){f:Fl}{ρ':Env}{τ:aa}
  (hl:aP call [some k,some (.loc s),some now,some (.loc r),some (.bool (QN d.q q)),some (.bool (QO d.q q))] (iG.drop 4) σ=some (f,ρ',τ)):
  aP call [some k,some (.loc s),some now,some (.loc r),b,c] iG σ=some (f,ρ',τ):=by
 refine CG hw λw1 w2 w3 w4 w5=>?_
 have HB:[V.int d.q.ai,.int d.q.proto,.int d.q.w3,.int d.q.w4]=[V.int q.ai,.int q.proto,.int q.w3,.int q.w4]:=by rw[w2,w3,w4,w5]
 have e1:cX .eq d.q.ends q.ends σ=some (decide (d.q.el=q.el)):=Pd rfl rfl
 have e2:cX .eq d.q.ends q.SV σ=some (decide (d.q.el=q.dl)):=Pd rfl rfl
 have e3:cX .isin (.int q.proto) (.lst [.int 1,.int 58]) σ=some (decide (V.int q.proto∈[V.int 1,.int 58])):=rfl
 unfold QN QO at hl
 generalize decide (d.q.el=q.el)=x1 at*
 generalize decide (d.q.el=q.dl)=x2 at*
 generalize decide (V.int q.proto∈[V.int 1,.int 58])=x3 at*
 revert hl
 cases ha:q.eE<;>cases x1<;>cases x3<;>intro hl
 ·exact yb 4 λφ=>φ (jd hr rfl hk) (bq hr rfl) (bq hs rfl) (uT w1) (bq hr rfl) (bq hs rfl) (zD rfl rfl HB) (bq hr rfl) (bq hs rfl) e1 (bq hr rfl) (bq hs rfl) rfl (bq hs rfl) rfl e2 (bq hs rfl) rfl e3 hl
 ·exact yb 4 λφ=>φ (jd hr rfl hk) (bq hr rfl) (bq hs rfl) (uT w1) (bq hr rfl) (bq hs rfl) (zD rfl rfl HB) (bq hr rfl) (bq hs rfl) e1 (bq hr rfl) (bq hs rfl) rfl (bq hs rfl) rfl e2 (bq hs rfl) rfl e3 (jd hs rfl ha) hl
 ·exact yb 4 λφ=>φ (jd hr rfl hk) (bq hr rfl) (bq hs rfl) (uT w1) (bq hr rfl) (bq hs rfl) (zD rfl rfl HB) (bq hr rfl) (bq hs rfl) e1 (jd hs rfl ha) (bq hr rfl) (bq hs rfl) rfl (bq hs rfl) rfl e2 (bq hs rfl) rfl e3 hl
 ·exact yb 4 λφ=>φ (jd hr rfl hk) (bq hr rfl) (bq hs rfl) (uT w1) (bq hr rfl) (bq hs rfl) (zD rfl rfl HB) (bq hr rfl) (bq hs rfl) e1 (jd hs rfl ha) (bq hr rfl) (bq hs rfl) rfl (bq hs rfl) rfl e2 (bq hs rfl) rfl e3 (jd hs rfl ha) hl
 ·exact yb 4 λφ=>φ (jd hr rfl hk) (bq hr rfl) (bq hs rfl) (uT w1) (bq hr rfl) (bq hs rfl) (zD rfl rfl HB) (bq hr rfl) (bq hs rfl) e1 (bq hr rfl) (bq hs rfl) rfl (bq hs rfl) rfl e2 (bq hs rfl) rfl e3 hl
 ·exact yb 4 λφ=>φ (jd hr rfl hk) (bq hr rfl) (bq hs rfl) (uT w1) (bq hr rfl) (bq hs rfl) (zD rfl rfl HB) (bq hr rfl) (bq hs rfl) e1 (bq hr rfl) (bq hs rfl) rfl (bq hs rfl) rfl e2 (bq hs rfl) rfl e3 (jd hs rfl ha) hl
 ·exact yb 4 λφ=>φ (jd hr rfl hk) (bq hr rfl) (bq hs rfl) (uT w1) (bq hr rfl) (bq hs rfl) (zD rfl rfl HB) (bq hr rfl) (bq hs rfl) e1 (jd hs rfl ha) (bq hr rfl) (bq hs rfl) rfl (bq hs rfl) rfl e2 (bq hs rfl) rfl e3 hl
 ·exact yb 4 λφ=>φ (jd hr rfl hk) (bq hr rfl) (bq hs rfl) (uT w1) (bq hr rfl) (bq hs rfl) (zD rfl rfl HB) (bq hr rfl) (bq hs rfl) e1 (jd hs rfl ha) (bq hr rfl) (bq hs rfl) rfl (bq hs rfl) rfl e2 (bq hs rfl) rfl e3 (jd hs rfl ha) hl
theorem Bj(call:Call){b c:Option V}{r s:Nat}{d:Dt}{q:Q}{σ:aa}(hr:σ[r]? =some (cj d))(hs:σ[s]? =some (bR q))(hk:d.kept=true)(hw:gq d.q q)(ht:¬l8 d.q q)(hb:¬m5 d.q q)(k:V)(now:V):
  aP call [some k,some (.loc s),some now,some (.loc r),b,c] iG σ=some (.cont,[some k,some (.loc s),some now,some (.loc r),some (.bool false),some (.bool false)],σ):=by
 refine qH call hr hs hk hw k now ?_
 refine ay (bf xM ht) (ay (bf xN hb) (?_))
 exact nH λφ=>φ
theorem v9(call:Call){r s:Nat}{d:Dt}{σ:aa}(hr:σ[r]? =some (cj d))(k:V)(now:Int)(b:Bool):
  aP call [some k,some (.loc s),some (.int now),some (.loc r),some (.bool (!b)),some (.bool b)] (iG.drop 4) σ=if now<d.eF then some (.ret (.tup [.loc r,.int (if b then 1 else 0)]),[some k,some (.loc s),some (.int now),some (.loc r),some (.bool (!b)),some (.bool b)],σ)
   else some (.next,[some k,some (.loc s),some (.int now),some (.loc r),some (.bool (!b)),some (.bool b)],σ.set r (cj {d with kept:=false,st:=d.st+512})):=by
 by_cases hl:now<d.eF
 ·refine ay (aC hl) (?_)
  cases b
  ·exact nH λφ=>φ (bq hr rfl) (Kq hl)
  ·exact nH λφ=>φ (bq hr rfl) (Kq hl)
 ·refine ay (aB hl) (?_)
  cases b
  ·exact nH λφ=>φ (bq hr rfl) (IU hl) (Be hr (aD rfl)) (bq (ja (In.of hr)) rfl) rfl (lY (In.of hr) (aD rfl))
  ·exact nH λφ=>φ (bq hr rfl) (IU hl) (Be hr (aD rfl)) (bq (ja (In.of hr)) rfl) rfl (lY (In.of hr) (aD rfl))
theorem Bk(call:Call){b c:Option V}{r s:Nat}{d:Dt}{q:Q}{σ:aa}(hr:σ[r]? =some (cj d))(hs:σ[s]? =some (bR q))(hk:d.kept=true)(hw:gq d.q q)(ht:l8 d.q q)(hb:¬m5 d.q q)(k:V)(now:Int):
  aP call [some k,some (.loc s),some (.int now),some (.loc r),b,c] iG σ=if now<d.eF then some (.ret (.tup [.loc r,.int 0]),[some k,some (.loc s),some (.int now),some (.loc r),some (.bool true),some (.bool false)],σ)
   else some (.next,[some k,some (.loc s),some (.int now),some (.loc r),some (.bool true),some (.bool false)],σ.set r (cj {d with kept:=false,st:=d.st+512})):=by
 have e:=v9 call (s:=s) hr k now false
 by_cases hl:now<d.eF<;>(simp only[hl,if_true,if_false] at e⊢;refine qH call hr hs hk hw k _ ?_;rw[xM.mpr ht,bf xN hb];exact e)
theorem DK(call:Call){b c:Option V}{r s:Nat}{d:Dt}{q:Q}{σ:aa}(hr:σ[r]? =some (cj d))(hs:σ[s]? =some (bR q))(hk:d.kept=true)(hw:gq d.q q)(ht:¬l8 d.q q)(hb:m5 d.q q)(k:V)(now:Int):
  aP call [some k,some (.loc s),some (.int now),some (.loc r),b,c] iG σ=if now<d.eF then some (.ret (.tup [.loc r,.int 1]),[some k,some (.loc s),some (.int now),some (.loc r),some (.bool false),some (.bool true)],σ)
   else some (.next,[some k,some (.loc s),some (.int now),some (.loc r),some (.bool false),some (.bool true)],σ.set r (cj {d with kept:=false,st:=d.st+512})):=by
 have e:=v9 call (s:=s) hr k now true
 by_cases hl:now<d.eF<;>(simp only[hl,if_true,if_false] at e⊢;refine qH call hr hs hk hw k _ ?_;rw[bf xM ht,xN.mpr hb];exact e)
section
variable {call:Call} {x:Nat} {b:List MS} {v u w:V} {gm σ τ:aa} {r:List V} {ρ ρ':Env}
theorem Mv(ok:dm v gm σ=true)(e:aP call (ρ.set x (some u)) b σ=some (.ret w,ρ',τ)):zB call x b v gm (u::r) ρ σ=some (.ret w,ρ',τ):=(aC ok).trans (aj (λo=>Option.bind o (fK call x b v gm r)) e)
theorem r5(ok:dm v gm σ=true)(e:aP call (ρ.set x (some u)) b σ=some (.next,ρ',τ)):zB call x b v gm (u::r) ρ σ=zB call x b v gm r ρ' τ:=(aC ok).trans (aj (λo=>Option.bind o (fK call x b v gm r)) e)
theorem Mw(ok:dm v gm σ=true):zB call x b v gm [] ρ σ=some (.next,ρ,σ):=aC ok
theorem wc{l:List V}(h:gm[x]? =some (.list l))(g:σ[x]? =some (.list l)):dm (.loc x) gm σ=true:=by
 show(match gm[x]?,σ[x]? with|some (.list a),some (.list b)=>_|_,_=>_)=true
 refine ay h (ay g (?_))
 first|exact fk rfl|exact beq_self_eq_true _
end
noncomputable def g8(d:Dt)(q:Q):Prop:=d.kept=true∧gq d.q q∧(l8 d.q q∨m5 d.q q)
theorem we(call:Call){b c:Option V}{r s:Nat}{d:Dt}{q:Q}{σ:aa}(hr:σ[r]? =some (cj d))(hs:σ[s]? =some (bR q))(hn:¬g8 d q)(k:V)(now:V):
  ∃b' c',aP call [some k,some (.loc s),some now,some (.loc r),b,c] iG σ=some (.cont,[some k,some (.loc s),some now,some (.loc r),b',c'],σ):=by
 cases hk:d.kept with
 |false=>exact⟨_,_,Bg (AO:=k) (oN:=k) (oO:=k) (a:=none) call hr hs hk k now⟩
 |true=>
  by_cases hw:gq d.q q
  ·have h1:¬l8 d.q q:=λh=>hn ⟨hk,hw,.inl h⟩
   exact⟨_,_,Bj call hr hs hk hw h1 (λh=>hn ⟨hk,hw,.inr h⟩) k now⟩
  ·exact⟨_,_,Bh call hr hs hk hw k now⟩
theorem find_none(call:Call){s:Nat}{q:Q}{σ gm:aa}{v:V}(hs:σ[s]? =some (bR q))(hok:dm v gm σ=true)(k:V)(now:V):∀(l:List (Nat × Dt))(x b c:Option V),
  (∀p∈l,σ[p.1]? =some (cj p.2))→(∀p∈l,¬g8 p.2 q)→
  ∃x' b' c',zB call 3 iG v gm (l.map λp=>V.loc p.1) [some k,some (.loc s),some now,x,b,c] σ=some (.next,[some k,some (.loc s),some now,x',b',c'],σ)
 | [],x,b,c,_,_=>⟨x,b,c,by simp only[List.map_nil,O0,hok,if_true]⟩
 |p::l,x,b,c,hr,hn=>by
  refine jo (we call (b:=b) (c:=c) (hr p (List.mem_cons_self ..)) hs (hn p (List.mem_cons_self ..)) k now) λb' c' e=>?_
  refine NQ (find_none call hs hok k now l (some (.loc p.1)) b' c' (λp h=>hr p (List.mem_cons_of_mem _ h)) (λp h=>hn p (List.mem_cons_of_mem _ h))) λx2 b2 c2 e2=>?_
  refine⟨x2,b2,c2,?_⟩
  simp only[fm,Gn,hok,if_true,List.set_cons_succ,List.set_cons_zero,e,Option.bind_some,Gp,e2]
theorem uh(call:Call){s:Nat}{q:Q}{σ gm:aa}{v:V}(hs:σ[s]? =some (bR q))(hok:dm v gm σ=true)(k:V)(now:V)(r:List V):∀(l:List (Nat × Dt))(x b c:Option V),
  (∀p∈l,σ[p.1]? =some (cj p.2))→(∀p∈l,¬g8 p.2 q)→
  ∃x' b' c',zB call 3 iG v gm ((l.map λp=>V.loc p.1)++r) [some k,some (.loc s),some now,x,b,c] σ=zB call 3 iG v gm r [some k,some (.loc s),some now,x',b',c'] σ
 | [],x,b,c,_,_=>⟨x,b,c,rfl⟩
 |p::l,x,b,c,hr,hn=>by
  refine jo (we call (b:=b) (c:=c) (hr p (List.mem_cons_self ..)) hs (hn p (List.mem_cons_self ..)) k now) λb' c' e=>?_
  refine NQ (uh call hs hok k now r l (some (.loc p.1)) b' c' (λp h=>hr p (List.mem_cons_of_mem _ h)) (λp h=>hn p (List.mem_cons_of_mem _ h))) λx2 b2 c2 e2=>?_
  refine⟨x2,b2,c2,?_⟩
  simp only[fm,List.cons_append,Gn,hok,if_true,List.set_cons_succ,List.set_cons_zero,e,Option.bind_some,Gp,e2]
noncomputable def qI(d:Dt)(q:Q)(dir:Int):Prop:=(dir=0∧l8 d.q q∧¬m5 d.q q)∨(dir=1∧¬l8 d.q q∧m5 d.q q)
theorem zG(call:Call){b c:Option V}{r s:Nat}{d:Dt}{q:Q}{σ:aa}{dir:Int}(hr:σ[r]? =some (cj d))(hs:σ[s]? =some (bR q))(hk:d.kept=true)(hw:gq d.q q)(hd:qI d q dir)(k:V)(now:Int):
  ∃b' c',aP call [some k,some (.loc s),some (.int now),some (.loc r),b,c] iG σ=if now<d.eF then some (.ret (.tup [.loc r,.int dir]),[some k,some (.loc s),some (.int now),some (.loc r),b',c'],σ)
   else some (.next,[some k,some (.loc s),some (.int now),some (.loc r),b',c'],σ.set r (cj {d with kept:=false,st:=d.st+512})):=by
 rcases hd with⟨rfl,h1,h2⟩|⟨rfl,h1,h2⟩
 ·exact⟨_,_,Bk call hr hs hk hw h1 h2 k now⟩
 ·exact⟨_,_,DK call hr hs hk hw h1 h2 k now⟩
theorem GG(n:Nat){s:Nat}{q:Q}{σ:aa}{now:Int}(hs:σ[s]? =some (bR q))(l:List (Nat × Dt))(h12:σ[12]? =some (.list (l.map λp=>V.loc p.1)))(hr:∀p∈l,σ[p.1]? =some (cj p.2))(hn:∀p∈l,¬g8 p.2 q):
  af P0 (n+1) 62 [.loc 12,.loc s,.int now] σ=some (.tup [.none,.int 0],σ):=by
 obtain⟨x,b,c,e⟩:=find_none (af P0 n) (v:= .loc 12) (gm:=σ) hs (wc h12 h12) (.loc 12) (.int now) l none none none hr hn
 exact nG (d:=Qq) rfl rfl λφ=>φ (forL h12 e)
theorem zH(n:Nat){s:Nat}{q:Q}{σ:aa}{now dir:Int}(hs:σ[s]? =some (bR q))(l1 l2:List (Nat × Dt))(p:Nat × Dt)(h12:σ[12]? =some (.list ((l1.map λp=>V.loc p.1)++ .loc p.1::l2.map λp=>V.loc p.1)))
  (hr:∀p∈l1,σ[p.1]? =some (cj p.2))(hn:∀p∈l1,¬g8 p.2 q)(hp:σ[p.1]? =some (cj p.2))(hk:p.2.kept=true)(hw:gq p.2.q q)(hd:qI p.2 q dir)(hl:now<p.2.eF):
  af P0 (n+1) 62 [.loc 12,.loc s,.int now] σ=some (.tup [.loc p.1,.int dir],σ):=by
 obtain⟨x,b,c,e⟩:=uh (af P0 n) (v:= .loc 12) (gm:=σ) hs (wc h12 h12) (.loc 12) (.int now) (.loc p.1::l2.map λp=>V.loc p.1) l1 none none none hr hn
 obtain⟨b',c',e2⟩:=zG (af P0 n) (b:=b) (c:=c) hp hs hk hw hd (.loc 12) now
 exact nG (d:=Qq) rfl rfl λφ=>φ (forL h12 (e.trans (Mv (wc h12 h12) (e2.trans (aC hl)))))
theorem GH(n:Nat){s:Nat}{q:Q}{σ:aa}{now dir:Int}(hs:σ[s]? =some (bR q))(l1 l2:List (Nat × Dt))(p:Nat × Dt)(h12:σ[12]? =some (.list ((l1.map λp=>V.loc p.1)++ .loc p.1::l2.map λp=>V.loc p.1)))
  (hr:∀p∈l1,σ[p.1]? =some (cj p.2))(hn:∀p∈l1,¬g8 p.2 q)(hp:σ[p.1]? =some (cj p.2))(hk:p.2.kept=true)(hw:gq p.2.q q)(hd:qI p.2 q dir)(hl:¬now<p.2.eF)
  (hr2:∀p∈l2,σ[p.1]? =some (cj p.2))(hn2:∀p∈l2,¬g8 p.2 q)(h2:∀p'∈l2,p'.1≠p.1)(SW:s≠p.1)(SX:p.1≠12):
  af P0 (n+1) 62 [.loc 12,.loc s,.int now] σ=some (.tup [.none,.int 0],σ.set p.1 (cj {p.2 with kept:=false,st:=p.2.st+512})):=by
 obtain⟨x,b,c,e⟩:=uh (af P0 n) (v:= .loc 12) (gm:=σ) hs (wc h12 h12) (.loc 12) (.int now) (.loc p.1::l2.map λp=>V.loc p.1) l1 none none none hr hn
 obtain⟨b',c',e2⟩:=zG (af P0 n) (b:=b) (c:=c) hp hs hk hw hd (.loc 12) now
 obtain⟨x3,b3,c3,e3⟩:=find_none (af P0 n) (v:= .loc 12) (gm:=σ) (σ:=σ.set p.1 (cj {p.2 with kept:=false,st:=p.2.st+512})) (gb SW.symm hs) (wc h12 (gb SX h12)) (.loc 12) (.int now) l2 (some (.loc p.1)) b' c' (λp' h=>gb (h2 p' h).symm (hr2 p' h)) hn2
 exact nG (d:=Qq) rfl rfl λφ=>φ (forL h12 (e.trans ((r5 (wc h12 h12) (e2.trans (aB hl))).trans e3)))
end Mine.L
set_option maxHeartbeats 4000000
namespace Mine.L
theorem Cb(n:Nat){s:Nat}{zone eE:V}{lone near ck:Bool}{dO:List (V × V)}{σ:aa}{k c now:V}(hs:σ[s]? =some (.dict 2 ((.str 29,zone)::(.str 122,eE)::(.str 120,.bool lone)::(.str 121,.bool near)::(.str 128,.bool ck)::dO)))(hb:ck=true∨lone=true):
  af P0 (n+1) 63 [k,c,.loc s,now] σ=some (.tup [.none,.int (if near=true∧ck=false then 64 else 1),.int 0],σ):=by
 cases ck
 ·have:=hb.resolve_left (λz=>nomatch z)
  clear hb
  subst this
  cases near
  ·exact nG (d:=D7) rfl rfl λφ=>φ (bq hs rfl) (bq hs rfl) (bq hs rfl)
  ·exact nG (d:=D7) rfl rfl λφ=>φ (bq hs rfl) (bq hs rfl) (bq hs rfl) (bq hs rfl)
 ·cases near
  ·exact nG (d:=D7) rfl rfl λφ=>φ (bq hs rfl) (bq hs rfl)
  ·exact nG (d:=D7) rfl rfl λφ=>φ (bq hs rfl) (bq hs rfl) (bq hs rfl)
theorem I6(n:Nat){s:Nat}{q:Q}{σ σ1:aa}{cnt:Int}{now:V}(hs:σ[s]? =some (bR q))(hf:af P0 n 62 [.loc 12,.loc s,now] σ=some (.tup [.none,.int 0],σ1))(hs1:σ1[s]? =some (bR q))(qj:σ1[13]? =some (.list [.int cnt]))(GI:s≠13)(ha:q.eE=true):
  af P0 (n+1) 63 [.loc 12,.loc 13,.loc s,now] σ=some (.tup [.none,.int 1,.int 0],σ1.set 13 (.list [.int (cnt+1)])):=by
 exact nG (d:=D7) rfl rfl λt=>t (bq hs rfl) (bq hs rfl) hf rfl (Ea qj rfl) rfl (QJ qj rfl (bS _)) (jd (gb GI.symm hs1) rfl ha)
noncomputable def m6(proto now:Int):Int:=now+(if proto=47 then 600000 else 30000)
theorem I7(n:Nat){s:Nat}{q:Q}{σ σ1:aa}{cnt now:Int}{kn:List V}(hs:σ[s]? =some (bR q))(hf:af P0 n 62 [.loc 12,.loc s,.int now] σ=some (.tup [.none,.int 0],σ1))(hs1:σ1[s]? =some (bR q))(qj:σ1[13]? =some (.list [.int cnt]))(h12:σ1[12]? =some (.list kn))(hkn:kn.length<900)(GI:s≠13)(Mx:s≠12)(ha:q.eE=false):
  af P0 (n+1) 63 [.loc 12,.loc 13,.loc s,.int now] σ=some (.tup [.loc σ1.length,.int 8,.int 0],((σ1.set 13 (.list [.int (cnt+1)])).set 12 (.list (kn++[.loc σ1.length])))++[cj ⟨q,cnt+1,now,m6 q.proto now,0,false⟩]):=by
 have My:=In.of qj
 have i12:=In.of h12
 have Vi:=My.ne
 have Vj:=i12.ne
 have hl:kn.length<1000:=by exact ltN [_] 1 vA (.num 1000) [.s 1 vA (.num 900)] aI hkn
 rw[show σ1.length=(σ1.set 13 (.list [.int (cnt+1)])).length from(List.length_set ..).symm]
 by_cases zI:q.proto=47
 ·have rQ:¬q.proto=17:=by exact λbT=>qq [_] [.f 1 vA (.num 47),.e 1 vA (.num 17)] aI zI bT
  rw[m6,aC zI]
  exact nG (d:=D7) (ρ:=[some (.loc 12),some (.loc 13),some (.loc s),some (.int now),none,none,none,none,none]) rfl rfl λφ=>φ (bq hs rfl) (bq hs rfl) hf rfl (Ea qj rfl) rfl (QJ qj rfl (by simp)) (jd (gb GI.symm hs1) rfl ha) (QL (gb GI.symm hs1) (aD rfl) rfl) (Ea (bF (ja My)) rfl) (uH rfl (aD rfl)) (uH rfl (aD rfl)) (uH rfl (aD rfl)) (uH rfl (aD rfl)) (O5 (bF (gb (by decide) h12))) (Pa (iS i12) (ap (bF (gb (by decide) h12)) hl)) (bq (bF (gb Mx.symm (gb GI.symm hs1))) rfl) rfl (eqT zI) rfl (uH (by simp) (aD rfl)) (gn rQ) rfl
 ·rw[m6,aB zI]
  by_cases rQ:q.proto=17
  ·exact nG (d:=D7) (ρ:=[some (.loc 12),some (.loc 13),some (.loc s),some (.int now),none,none,none,none,none]) rfl rfl λφ=>φ (bq hs rfl) (bq hs rfl) hf rfl (Ea qj rfl) rfl (QJ qj rfl (by simp)) (jd (gb GI.symm hs1) rfl ha) (QL (gb GI.symm hs1) (aD rfl) rfl) (Ea (bF (ja My)) rfl) (uH rfl (aD rfl)) (uH rfl (aD rfl)) (uH rfl (aD rfl)) (uH rfl (aD rfl)) (O5 (bF (gb (by decide) h12))) (Pa (iS i12) (ap (bF (gb (by decide) h12)) hl)) (bq (bF (gb Mx.symm (gb GI.symm hs1))) rfl) rfl (gn zI) rfl (uH (by simp) (aD rfl)) (eqT rQ) (bq (uU (by simp)) rfl) rfl rfl (gn (by decide)) rfl
  ·exact nG (d:=D7) (ρ:=[some (.loc 12),some (.loc 13),some (.loc s),some (.int now),none,none,none,none,none]) rfl rfl λφ=>φ (bq hs rfl) (bq hs rfl) hf rfl (Ea qj rfl) rfl (QJ qj rfl (by simp)) (jd (gb GI.symm hs1) rfl ha) (QL (gb GI.symm hs1) (aD rfl) rfl) (Ea (bF (ja My)) rfl) (uH rfl (aD rfl)) (uH rfl (aD rfl)) (uH rfl (aD rfl)) (uH rfl (aD rfl)) (O5 (bF (gb (by decide) h12))) (Pa (iS i12) (ap (bF (gb (by decide) h12)) hl)) (bq (bF (gb Mx.symm (gb GI.symm hs1))) rfl) rfl (gn zI) rfl (uH (by simp) (aD rfl)) (gn rQ) rfl
noncomputable def qJ(d:Dt)(proto now:Int):Dt:=
 if proto=17∧d.st/2%2=1∧2000<now-d.since then{d with eF:=now+120000,st:=if d.st/4%2=0 then d.st+4 else d.st} else{d with eF:=m6 proto now}
noncomputable def ly(d:Dt)(dir:Int):Dt:=if dir=1∧d.st/2%2=0 then{d with st:=d.st+2} else d
noncomputable def Bl(d:Dt)(proto now:Int):Dt:=if proto=17∧d.st/2%2=1∧2000<now-d.since then{d with eF:=now+120000,st:=if d.st/4%2=0 then d.st+4 else d.st} else d
theorem I8(d:Dt)(proto now:Int):Bl {d with eF:=m6 proto now} proto now=qJ d proto now:=rfl
theorem Ks(k:Nat):jq .fdiv (.int (k:Nat)) (.int 2)=some (.int ((k/2:Nat):Int)):=aj (λx=>some (V.int x)) (Int.fdiv_eq_ediv_of_nonneg (k:Int) (by decide:(0:Int)≤2))
theorem Vk(k:Nat):jq .fdiv (.int (k:Nat)) (.int 4)=some (.int ((k/4:Nat):Int)):=aj (λx=>some (V.int x)) (Int.fdiv_eq_ediv_of_nonneg (k:Int) (by decide:(0:Int)≤4))
theorem HC(k:Nat):jq .mod (.int (k:Nat)) (.int 2)=some (.int ((k%2:Nat):Int)):=aj (λx=>some (V.int x)) (Int.fmod_eq_emod_of_nonneg (k:Int) (by decide:(0:Int)≤2))
theorem Pq(call:Call){r:Nat}{d:Dt}{σ:aa}(i:In r σ)(k c s now st p nm:V)(dir:Int){ρ:Env}(Kf:ρ=[some k,some c,some s,some now,some (.loc r),some (.int dir),some st,some p,none]):
  aP call ρ (Qs.drop 6) (σ.set r (cj d))=some (.ret (.tup [.loc r,st,.int dir]),ρ,σ.set r (cj (ly d dir))):=by
 refine ay Kf ?_
 by_cases h:dir=1
 ·by_cases h2:d.st/2%2=0
  ·rw[ly,aC ⟨h,h2⟩]
   exact nH λφ=>φ (eqT h) (bq (ja i) rfl) (Ks _) (HC _) (eqT (zz h2)) (bq (ja i) rfl) rfl (lY i (aD rfl))
  ·rw[ly,aB (λz=>h2 z.2)]
   exact nH λφ=>φ (eqT h) (bq (ja i) rfl) (Ks _) (HC _) (gn (nz h2))
 ·rw[ly,aB (λz=>h z.1)]
  exact nH λφ=>φ (gn h)
theorem Pu(call:Call){r:Nat}{d:Dt}{σ:aa}(i:In r σ)(k c s st nm:V)(now p dir:Int){ρ:Env}(Kf:ρ=[some k,some c,some s,some (.int now),some (.loc r),some (.int dir),some st,some (.int p),none]):
  aP call ρ (Qs.drop 5) (σ.set r (cj d))=some (.ret (.tup [.loc r,st,.int dir]),ρ,σ.set r (cj (ly (Bl d p now) dir))):=by
 have t6:=λd=>Pq call (d:=d) i k c s (.int now) st (.int p) nm dir Kf
 subst Kf
 by_cases rQ:p=17
 ·by_cases h2:((d.st/2%2:Nat):Int)=1
  ·by_cases ht:2000<now-d.since
   ·by_cases h4:d.st/4%2=0
    ·rw[Bl,aC ⟨rQ,Int.ofNat.inj h2,ht⟩,aC h4]
     exact yb 1 λφ=>φ (eqT rQ) (bq (ja i) rfl) (Ks _) (HC _) (eqT h2) (bq (ja i) rfl) rfl (Kq ht) rfl (lY i (aD rfl)) (bq (ja i) rfl) (Vk _) (HC _) (eqT (zz h4)) (bq (ja i) rfl) rfl (lY i (aD rfl)) (t6 {d with eF:=now+120000,st:=d.st+4})
    ·rw[Bl,aC ⟨rQ,Int.ofNat.inj h2,ht⟩,aB h4]
     exact yb 1 λφ=>φ (eqT rQ) (bq (ja i) rfl) (Ks _) (HC _) (eqT h2) (bq (ja i) rfl) rfl (Kq ht) rfl (lY i (aD rfl)) (bq (ja i) rfl) (Vk _) (HC _) (gn (nz h4)) (t6 {d with eF:=now+120000})
   ·rw[Bl,aB (λz=>ht z.2.2)]
    exact yb 1 λφ=>φ (eqT rQ) (bq (ja i) rfl) (Ks _) (HC _) (eqT h2) (bq (ja i) rfl) rfl (IU ht) (t6 d)
  ·rw[Bl,aB (λz=>h2 (aj Int.ofNat z.2.1))]
   exact yb 1 λφ=>φ (eqT rQ) (bq (ja i) rfl) (Ks _) (HC _) (gn h2) (t6 d)
 ·rw[Bl,aB (λz=>rQ z.1)]
  exact yb 1 λφ=>φ (gn rQ) (t6 d)
theorem Pw(call:Call){r s:Nat}{d:Dt}{q:Q}{σ:aa}(hr:σ[r]? =some (cj d))(hs:σ[s]? =some (bR q))(k c st:V)(now dir:Int){ρ:Env}(Kf:ρ=[some k,some c,some (.loc s),some (.int now),some (.loc r),some (.int dir),some st,none,none]):
  aP call ρ (Qs.drop 3) σ=some (.ret (.tup [.loc r,st,.int dir]),[some k,some c,some (.loc s),some (.int now),some (.loc r),some (.int dir),some st,some (.int q.proto),none],σ.set r (cj (ly (qJ d q.proto now) dir))):=by
 have t5:=λd=>Pu call (d:=d) (In.of hr) k c (.loc s) st (.int 0) now q.proto dir rfl
 refine ay Kf ?_
 rw[←I8]
 unfold m6
 by_cases zI:q.proto=47
 ·refine ay (aC zI) (?_)
  exact yb 2 λφ=>φ (bq hs rfl) rfl (eqT zI) rfl (Be hr (aD rfl)) (t5 {d with eF:=now+600000})
 ·refine ay (aB zI) (?_)
  exact yb 2 λφ=>φ (bq hs rfl) rfl (gn zI) rfl (Be hr (aD rfl)) (t5 {d with eF:=now+30000})
theorem GJ(n:Nat){s r:Nat}{q:Q}{d:Dt}{σ:aa}{now dir:Int}{c:V}(hs:σ[s]? =some (bR q))(hf:af P0 n 62 [.loc 12,.loc s,.int now] σ=some (.tup [.loc r,.int dir],σ))(hr:σ[r]? =some (cj d))(Zx:s≠r)(IV:dir=0∨dir=1):
  af P0 (n+1) 63 [.loc 12,c,.loc s,.int now] σ=some (.tup [.loc r,.int (if dir=1∨d.st/2%2=1 then 2 else 8),.int dir],σ.set r (cj (ly (qJ d q.proto now) dir))):=by
 have t3:=λst=>Pw (af P0 n) hr hs (.loc 12) c st now dir rfl
 by_cases h1:dir=1
 ·refine ay (aC (.inl h1)) (?_)
  exact IS (d:=D7) 3 rfl rfl λφ=>φ (bq hs rfl) (bq hs rfl) hf rfl (eqT h1) (t3 _)
 ·by_cases h2:((d.st/2%2:Nat):Int)=1
  ·refine ay (aC (.inr (Int.ofNat.inj h2))) (?_)
   exact IS (d:=D7) 3 rfl rfl λφ=>φ (bq hs rfl) (bq hs rfl) hf rfl (gn h1) (bq hr rfl) (Ks _) (HC _) (eqT h2) (t3 _)
  ·refine ay (aB (λz=>z.elim h1 λz=>h2 (aj Int.ofNat z))) (?_)
   exact IS (d:=D7) 3 rfl rfl λφ=>φ (bq hs rfl) (bq hs rfl) hf rfl (gn h1) (bq hr rfl) (Ks _) (HC _) (gn h2) (t3 _)
theorem GK(n:Nat){k s now:V}{σ:aa}:af P0 (n+1) 64 [k,.none,s,now] σ=some (.none,σ):=by
 exact nG (d:=f64) rfl rfl λt=>t rfl
theorem SY(st:Nat):((st:Int).fdiv 8).fmod 2=((st/8%2:Nat):Int):=by
 rw[Int.fdiv_eq_ediv_of_nonneg _ (by decide),Int.fmod_eq_emod_of_nonneg _ (by decide)];lia
theorem I9(n r:Nat){k s now:V}{d:Dt}{σ:aa}(hr:σ[r]? =some (cj d))(h8:d.st/8%2=1):af P0 (n+1) 64 [k,.loc r,s,now] σ=some (.none,σ):=by
 have e:=SY d.st
 rw[h8] at e
 exact nG (d:=f64) rfl rfl λt=>t rfl (bq hr rfl) rfl rfl (eqT e)
theorem GL(n r:Nat){k s now:V}{u:Nat}{w:V}{d:Dt}{σ σ1:aa}(hr:σ[r]? =some (cj d))(h8:d.st/8%2=0)(hf:af P0 n 62 [k,s,now] σ=some (.tup [.loc u,w],σ1)):af P0 (n+1) 64 [k,.loc r,s,now] σ=some (.tup [.str 100,.str 101],σ1):=by
 have e:=SY d.st
 rw[h8] at e
 exact nG (d:=f64) rfl rfl λt=>t rfl (bq hr rfl) rfl rfl (gn (by exact λbT=>qq [_] [.e 1 vA (.num 0),.f 1 vA (.num 1)] aI e bT)) hf rfl rfl
theorem GN(n r:Nat){k s now:V}{w:V}{d:Dt}{σ σ1:aa}(hr:σ[r]? =some (cj d))(h8:d.st/8%2=0)(hf:af P0 n 62 [k,s,now] σ=some (.tup [.none,w],σ1))(hr1:σ1[r]? =some (cj d)):af P0 (n+1) 64 [k,.loc r,s,now] σ=some (.none,σ1.set r (cj {d with kept:=true,st:=d.st+8})):=by
 have e:=SY d.st
 rw[h8] at e
 have ir:=In.of hr1
 exact nG (d:=f64) rfl rfl λt=>t rfl (bq hr rfl) rfl rfl (gn (by exact λbT=>qq [_] [.e 1 vA (.num 0),.f 1 vA (.num 1)] aI e bT)) hf rfl rfl (Be hr1 (aD rfl)) (bq (ja ir) rfl) rfl (lY ir (aD rfl))
theorem Vl(n t r:Nat){d:Dt}{σ:aa}(ht:σ[t]? =some (aK d))(hr:σ[r]? =some (cj d)):af P0 (n+1) 65 [.loc t,.loc r] σ=some (.bool true,σ):=by
 exact nG (d:=Us) rfl rfl λφ=>φ (gA ht rfl) (gA ht rfl) (gA ht rfl) (gA ht rfl) (gA ht rfl) (gA ht rfl) (gA ht rfl) (QL hr (aD rfl) rfl) (Pc rfl rfl rfl) (gA ht rfl) (gA ht rfl) (gA ht rfl) (gA ht rfl) (Pc rfl rfl rfl)
noncomputable def GO:List MS→List MS
 |_::_:: .for _ _ b::_=>b
 |_=>[]
@[scoped simp] theorem Ng(a c:MS)(x:Nat)(it:ME)(b r:List MS):GO (a::c:: .for x it b::r)=b:=rfl
noncomputable def oW:List MS:=GO Qt
theorem GP(n:Nat){r t i:Nat}{d:Dt}{kn hl:List V}{σ τ:aa}{x:Option V}{b c ca ta:V}(h12:τ[12]? =some (.list kn))(rE:τ[14]? =some (.list hl))(hi:kn[i]? =some (.loc r))(hi2:hl[i]? =some (.loc t))(S4:i<1000)(ht:τ[t]? =some (aK d))(hr:τ[r]? =some (cj d))(hk:d.kept=false):
  aP (af P0 (n+1)) [some b,some (.loc 12),some c,some (.loc 14),some ta,some ca,some (.int i),x] oW τ=some (.next,[some b,some (.loc 12),some c,some (.loc 14),some ta,some ca,some (.int i),some (.loc r)],τ):=by
 have e:=Vl n t r ht hr
 have Px:gE (i:Int)=some i:=aC ⟨fF i,by exact ltI [_] 1 vA (.num 16777216) [.s 1 vA (.num 1000)] aI (Int.ofNat_lt.mpr S4)⟩
 have u1:cH (.loc 12) (.int i) τ=some (.loc r):=Ea h12 ((aj (λo=>Option.bind o (kn[·]?)) Px).trans hi)
 have u2:cH (.loc 14) (.int i) τ=some (.loc t):=Ea rE ((aj (λo=>Option.bind o (hl[·]?)) Px).trans hi2)
 have u3:cH (.loc r) (.str 133) τ=some (.bool false):=jd hr rfl hk
 show aP _ _ oW _=_
 unfold oW
 exact nH λφ=>φ u1 u2 e u3
theorem Ja(n:Nat){r t i:Nat}{d:Dt}{kn hl ks:List V}{σ:aa}{x:Option V}{c:V}{kT:Nat}{last:Int}{tab dR:List (V × V)}(hB:σ[0]? =some (di last))(hK:σ[2]? =some (.dict 1 dR))(h12:σ[12]? =some (.list kn))(rE:σ[14]? =some (.list hl))(hi:kn[i]? =some (.loc r))(hi2:hl[i]? =some (.loc t))(S4:i<1000)(ht:σ[t]? =some (aK d))(hr:σ[r]? =some (cj d))(hk:d.kept=true)
  (hf:aQ dR (.int d.num)=some (.loc t))(z0:kT=0∨kT=3)(k0:kk d.q.k0=3)(k1:kk d.q.k1=3)(l1:tab.length<900)(Ms:(cA tab d.q.k0 (.tup [.int d.num,.int 0])).length<900)(l2:ks.length<900):
  aP (af P0 (n+1)) [some (.loc 0),some (.loc 12),some c,some (.loc 14),some (.loc σ.length),some (.loc (σ.length+1)),some (.int i),x] oW (σ++[.dict kT tab]++[.list ks])=some (.next,[some (.loc 0),some (.loc 12),some c,some (.loc 14),some (.loc σ.length),some (.loc (σ.length+1)),some (.int i),some (.loc r)],σ++[.dict 3 (cA (cA tab d.q.k0 (.tup [.int d.num,.int 0])) d.q.k1 (.tup [.int d.num,.int 1]))]++[.list (ks++[.int d.num])]):=by
 have jt:=In.of ht
 have jr:=In.of hr
 have ht':(σ++[.dict kT tab]++[.list ks])[t]? =some (aK d):=bF (bF ht)
 have hr':(σ++[.dict kT tab]++[.list ks])[r]? =some (cj d):=bF (bF hr)
 have e:=Vl n t r (σ:=σ++[.dict kT tab]++[.list ks]) (d:=d) ht' hr'
 have S5:(σ++[.dict kT tab]++[.list ks])[12]? =some (.list kn):=bF (bF h12)
 have pY:(σ++[.dict kT tab]++[.list ks])[14]? =some (.list hl):=bF (bF rE)
 have Px:gE (i:Int)=some i:=aC ⟨fF i,by exact ltI [_] 1 vA (.num 16777216) [.s 1 vA (.num 1000)] aI (Int.ofNat_lt.mpr S4)⟩
 have u1:cH (.loc 12) (.int i) (σ++[.dict kT tab]++[.list ks])=some (.loc r):=Ea S5 ((aj (λo=>Option.bind o (kn[·]?)) Px).trans hi)
 have u2:cH (.loc 14) (.int i) (σ++[.dict kT tab]++[.list ks])=some (.loc t):=Ea pY ((aj (λo=>Option.bind o (hl[·]?)) Px).trans hi2)
 have u3:cH (.loc r) (.str 133) (σ++[.dict kT tab]++[.list ks])=some (.bool true):=jd hr' rfl hk
 have m1:tab.length<1000:=Nat.lt_trans l1 (by decide)
 have SR:(cA tab d.q.k0 (.tup [.int d.num,.int 0])).length<1000:=Nat.lt_trans Ms (by decide)
 have m2:ks.length<1000:=Nat.lt_trans l2 (by decide)
 have v1:lO (.loc (σ.length+1)) (.int d.num) (σ++[.dict kT tab]++[.list ks])=some (σ++[.dict kT tab]++[.list (ks++[.int d.num])]):=(ap (uU (by simp)) m2).trans (aj some (fh _ _ _ _ (by simp)))
 have il:mH (.loc (σ.length+1)) (σ++[.dict kT tab]++[.list ks])=true:=O5 (uU (by simp))
 have v2:kG (.loc σ.length) (.tup [.int d.q.zone,d.q.t]) (.tup [.int d.num,.int 0]) (σ++[.dict kT tab]++[.list (ks++[.int d.num])])=some (σ++[.dict 3 (cA tab d.q.k0 (.tup [.int d.num,.int 0]))]++[.list (ks++[.int d.num])]):=
  Pa (by simp[In]) ((QK (bF (uU rfl)) z0 k0 m1).trans (aj some rfl)) |>.trans (aj (λz=>some (z++_)) (fh _ _ _ _ rfl))
 have v3:kG (.loc σ.length) (.tup [.int d.q.zone,d.q.b]) (.tup [.int d.num,.int 1]) (σ++[.dict 3 (cA tab d.q.k0 (.tup [.int d.num,.int 0]))]++[.list (ks++[.int d.num])])=some (σ++[.dict 3 (cA (cA tab d.q.k0 (.tup [.int d.num,.int 0])) d.q.k1 (.tup [.int d.num,.int 1]))]++[.list (ks++[.int d.num])]):=
  Pa (by simp[In]) ((QK (bF (uU rfl)) (.inr rfl) k1 SR).trans (aj some rfl)) |>.trans (aj (λz=>some (z++_)) (fh _ _ _ _ rfl))
 have w1:∀o1 o2,cX .sf (.int d.num) (.loc 2) (σ++[o1]++[o2])=some false:=λ_ _=>aj (Option.map (!·)) (Nd (bF (bF hK)) hf)
 have w2:∀o1 o2,cH (.loc 2) (.int d.num) (σ++[o1]++[o2])=some (.loc t):=λ_ _=>Mn (bF (bF hK)) hf
 show aP _ _ oW _=_
 unfold oW
 exact nH λφ=>φ u1 u2 e u3 il (bq hr' rfl) v1 (bq (bF (bF hr)) rfl) (bq (bF (bF hr)) rfl) (bq (bF (bF hr)) rfl) v2 (bq (bF (bF hr)) rfl) (bq (bF (bF hr)) rfl) (bq (bF (bF hr)) rfl) v3 (bq (bF (bF hr)) rfl) (gA (bF (bF hB)) rfl) (w1 _ _) (gA (bF (bF hB)) rfl) (bq (bF (bF hr)) rfl) (w2 _ _) (gA (bF (bF ht)) rfl) (bq (bF (bF hr)) rfl) (uT rfl)
structure Rw where
 rl:Nat
 tl:Nat
 d:Dt
noncomputable def xO(tab:List (V × V))(d:Dt):List (V × V):=if d.kept then cA (cA tab d.q.k0 (.tup [.int d.num,.int 0])) d.q.k1 (.tup [.int d.num,.int 1]) else tab
noncomputable def tabOf:List (V × V)→List Rw→List (V × V)
 |tab,[]=>tab
 |tab,p::l=>tabOf (xO tab p.d) l
noncomputable def kindOf:Nat→List Rw→Nat
 |k,[]=>k
 |k,p::l=>kindOf (if p.d.kept then 3 else k) l
noncomputable def numsOf:List Rw→List V
 | []=>[]
 |p::l=>if p.d.kept then .int p.d.num::numsOf l else numsOf l
theorem m7:∀(es:List (V × V))(k v:V),(cA es k v).length≤es.length+1
 | [],k,v=>by simp[cA]
 |(a,u)::r,k,v=>by
  simp only[cA]
  split
  ·simp
  ·have:=m7 r k v
   simp only[List.length_cons];exact cP [_,_] 1 (.add vA (.num 1)) (.add (.add vB (.num 1)) (.num 1)) [.l 1 vA (.add vB (.num 1))] aI this
theorem GQ(tab:List (V × V))(d:Dt):(xO tab d).length≤tab.length+2:=by
 unfold xO
 split
 ·have h1:=m7 tab d.q.k0 (.tup [.int d.num,.int 0])
  have h2:=m7 (cA tab d.q.k0 (.tup [.int d.num,.int 0])) d.q.k1 (.tup [.int d.num,.int 1])
  exact cP [_,_,_] 1 vA (.add vB (.num 2)) [.l 1 vC (.add vB (.num 1)),.l 1 vA (.add vC (.num 1))] aI h1 h2
 ·exact cP [_] 1 vA (.add vA (.num 2)) [] aI
theorem xP(n:Nat){kn hl:List V}{σ gm:aa}{c:V}{last m:Int}{dR:List (V × V)}(hB:σ[0]? =some (di last))(hK:σ[2]? =some (.dict 1 dR)∨True)(h12:σ[12]? =some (.list kn))(rE:σ[14]? =some (.list hl)):
  ∀(l:List Rw)(i:Nat)(x y:Option V)(kT:Nat)(tab:List (V × V))(ks:List V),(∀j p,l[j]? =some p→kn[i+j]? =some (.loc p.rl)∧hl[i+j]? =some (.loc p.tl)∧σ[p.tl]? =some (aK p.d)∧σ[p.rl]? =some (cj p.d)∧kk p.d.q.k0=3∧kk p.d.q.k1=3∧(p.d.kept=true→σ[2]? =some (.dict 1 dR)∧aQ dR (.int p.d.num)=some (.loc p.tl)))→
  (kT=0∨kT=3)→i+l.length≤100→tab.length+2*l.length≤400→ks.length+l.length≤400→
  ∃x' y',zB (af P0 (n+1)) 6 oW (.rJ m) gm (upTo i l.length) [some (.loc 0),some (.loc 12),some c,some (.loc 14),some (.loc σ.length),some (.loc (σ.length+1)),x,y] (σ++[.dict kT tab]++[.list ks])=
   some (.next,[some (.loc 0),some (.loc 12),some c,some (.loc 14),some (.loc σ.length),some (.loc (σ.length+1)),x',y'],σ++[.dict (kindOf kT l) (tabOf tab l)]++[.list (ks++numsOf l)])
 | [],i,x,y,kT,tab,ks,hp,hk,h1,h2,h3=>⟨x,y,(Mw rfl).trans (aj (λz=>some (Fl.next,[some (V.loc 0),some (.loc 12),some c,some (.loc 14),some (.loc σ.length),some (.loc (σ.length+1)),x,y],σ++[.dict kT tab]++[.list z])) (List.append_nil ks).symm)⟩
 |p::l,i,x,y,kT,tab,ks,hp,hk,h1,h2,h3=>by
  obtain⟨p1,p2,p3,p4,p5,p6,p7⟩:=hp 0 p rfl
  simp only[Nat.add_zero] at p1 p2
  have rL:∀j q,l[j]? =some q→_:=λj q h=>by
   have:=hp (j+1) q (‹_›)
   rw[show i+(j+1)=i+1+j by exact dH (cP [_,_] 1 (.add vA (.add vB (.num 1))) (.add (.add vA (.num 1)) vB) [] aI) (cP [_,_] 1 (.add (.add vA (.num 1)) vB) (.add vA (.add vB (.num 1))) [] aI)] at this
   exact this
  simp only[List.length_cons] at h1 h2 h3
  cases hkp:p.d.kept with
  |false=>
   have e:=GP n (r:=p.rl) (t:=p.tl) (i:=i) (d:=p.d) (kn:=kn) (hl:=hl) (σ:=σ) (τ:=σ++[.dict kT tab]++[.list ks]) (x:=y) (b:= .loc 0) (c:=c) (ca:= .loc (σ.length+1)) (ta:= .loc σ.length) (bF (bF h12)) (bF (bF rE)) p1 p2 (by exact ltN [_,_] 1 vA (.num 1000) [.l 1 (.add vA (.add vB (.num 1))) (.num 100)] aI h1) (bF (bF p3)) (bF (bF p4)) hkp
   obtain⟨x',y',e2⟩:=xP n (gm:=gm) (c:=c) (m:=m) hB (.inr trivial) h12 rE l (i+1) (some (.int i)) (some (.loc p.rl)) kT tab ks rL hk (by exact cP [_,_] 1 (.add (.add vA (.num 1)) vB) (.num 100) [.l 1 (.add vA (.add vB (.num 1))) (.num 100)] aI h1) (by exact cP [_,_] 1 (.add vA (.mulL 2 vB)) (.num 400) [.l 1 (.add vA (.mulL 2 (.add vB (.num 1)))) (.num 400)] aI h2) (by exact cP [_,_] 1 (.add vA vB) (.num 400) [.l 1 (.add vA (.add vB (.num 1))) (.num 400)] aI h3)
   refine⟨x',y',(r5 rfl e).trans (e2.trans ?_)⟩
   simp only[tabOf,kindOf,numsOf,xO,hkp,Bool.false_eq_true,if_false]
  |true=>
   obtain⟨q1,q2⟩:=p7 hkp
   have n9:=m7 tab p.d.q.k0 (.tup [.int p.d.num,.int 0])
   have e:=Ja n (x:=y) (c:=c) hB q1 h12 rE p1 p2 (by exact ltN [_,_] 1 vA (.num 1000) [.l 1 (.add vA (.add vB (.num 1))) (.num 100)] aI h1) p3 p4 hkp q2 hk p5 p6 (by exact ltN [_,_] 1 vA (.num 900) [.l 1 (.add vA (.mulL 2 (.add vB (.num 1)))) (.num 400)] aI h2) (by exact ltN [_,_,_] 1 vA (.num 900) [.l 1 (.add vB (.mulL 2 (.add vC (.num 1)))) (.num 400),.l 1 vA (.add vB (.num 1))] aI h2 n9) (by exact ltN [_,_] 1 vA (.num 900) [.l 1 (.add vA (.add vB (.num 1))) (.num 400)] aI h3) (ks:=ks) (tab:=tab)
   have mh:=GQ tab p.d
   obtain⟨x',y',e2⟩:=xP n (gm:=gm) (c:=c) (m:=m) hB (.inr trivial) h12 rE l (i+1) (some (.int i)) (some (.loc p.rl)) 3 (xO tab p.d) (ks++[.int p.d.num]) rL (.inr rfl) (by exact cP [_,_] 1 (.add (.add vA (.num 1)) vB) (.num 100) [.l 1 (.add vA (.add vB (.num 1))) (.num 100)] aI h1) (by exact cP [_,_,_] 1 (.add vA (.mulL 2 vB)) (.num 400) [.l 1 (.add vC (.mulL 2 (.add vB (.num 1)))) (.num 400),.l 1 vA (.add vC (.num 2))] aI h2 mh) (by simp only[eG,List.length_cons,List.length_nil];exact cP [_,_] 1 (.add (.add vA (.add (.num 0) (.num 1))) vB) (.num 400) [.l 1 (.add vA (.add vB (.num 1))) (.num 400)] aI h3)
   simp only[xO,hkp,if_true] at e2
   refine⟨x',y',(r5 rfl e).trans (e2.trans ?_)⟩
   simp only[tabOf,kindOf,numsOf,xO,hkp,if_true,List.append_assoc]
   rfl
noncomputable def aZ(es:List (V × V)):List V:=es.map (·.1)
@[scoped simp] theorem um:aZ []=[]:=rfl
@[scoped simp] theorem fQ(k v:V)(r:List (V × V)):aZ ((k,v)::r)=k::aZ r:=rfl
theorem gJ(a b:List (V × V)):aZ (a++b)=aZ a++aZ b:=by simp[aZ]
theorem m8{k v:V}{es:List (V × V)}(h:(k,v)∈es):k∈aZ es:=List.mem_map.mpr ⟨_,h,rfl⟩
theorem gT{a b:List (V × V)}(h:a.Perm b):(aZ a).Perm (aZ b):=h.map _
theorem uo{k:V}:∀{es:List (V × V)},k∉aZ es→aQ es k=none
 | [],_=>rfl
 |(a,u)::r,h=>by
  simp only[fQ,List.mem_cons,not_or] at h
  simp only[aQ,aB (Ne.symm h.1),uo h.2]
theorem fW{k v:V}:∀{es:List (V × V)},(aZ es).Nodup→(k,v)∈es→aQ es k=some v
 |(a,u)::r,hn,h=>by
  simp only[fQ,List.nodup_cons] at hn
  rcases eH h with e|h'
  ·cases e;simp[aQ]
  ·have:a≠k:=λe=>hn.1 (e▸m8 h')
   simp only[aQ,aB this]
   exact fW hn.2 h'
theorem lz{k v:V}:∀{es:List (V × V)},k∉aZ es→cA es k v=es++[(k,v)]
 | [],_=>rfl
 |(a,u)::r,h=>by
  simp only[fQ,List.mem_cons,not_or] at h
  simp only[cA,aB (Ne.symm h.1),lz h.2,List.cons_append]
theorem nI{k v:V}:∀{es:List (V × V)},(aZ es).Nodup→(k,v)∈es→es.Perm ((k,v)::fU es k)
 |(a,u)::r,hn,h=>by
  simp only[fQ,List.nodup_cons] at hn
  rcases eH h with e|h'
  ·cases e;simp[fU]
  ·have:a≠k:=λe=>hn.1 (e▸m8 h')
   simp only[fU,aB this]
   exact(List.Perm.cons _ (nI hn.2 h')).trans (List.Perm.swap _ _ _)
noncomputable def iH(d:Dt):List (V × V):=if d.kept then [(d.q.k0,.tup [.int d.num,.int 0]),(d.q.k1,.tup [.int d.num,.int 1])] else []
noncomputable def z4(p:Rw):List (V × V):=if p.d.kept then [(.int p.d.num,.loc p.tl)] else []
noncomputable def cT:List Rw→List (V × V)
 | []=>[]
 |p::l=>iH p.d++cT l
noncomputable def gc:List Rw→List (V × V)
 | []=>[]
 |p::l=>z4 p++gc l
theorem pZ:∀a b:List Rw,cT (a++b)=cT a++cT b
 | [],b=>rfl
 |p::a,b=>by simp only[List.cons_append,cT,pZ a b,List.append_assoc]
theorem qK:∀a b:List Rw,gc (a++b)=gc a++gc b
 | [],b=>rfl
 |p::a,b=>by simp only[List.cons_append,gc,qK a b,List.append_assoc]
theorem gu{e:V × V}:∀{l:List Rw},e∈cT l↔∃p∈l,e∈iH p.d
 | []=>by simp[cT]
 |p::l=>by simp[cT,gu (l:=l)]
theorem nJ{e:V × V}:∀{l:List Rw},e∈gc l↔∃p∈l,e∈z4 p
 | []=>by simp[gc]
 |p::l=>by simp[gc,nJ (l:=l)]
theorem zJ{e:V × V}{d:Dt}:e∈iH d↔d.kept=true∧(e=(d.q.k0,.tup [.int d.num,.int 0])∨e=(d.q.k1,.tup [.int d.num,.int 1])):=by
 unfold iH;split<;>simp_all
theorem Cc{e:V × V}{p:Rw}:e∈z4 p↔p.d.kept=true∧e=(.int p.d.num,.loc p.tl):=by
 unfold z4;split<;>simp_all
theorem uq:∀l:List Rw,(cT l).length≤2*l.length
 | []=>bS _
 |p::l=>by
  have:=uq l
  simp only[cT,iH,eG]
  split<;>simp only[List.length_cons,List.length_nil]<;>(first|exact cP [_,_] 1 (.add (.add (.add (.num 0) (.num 1)) (.num 1)) vA) (.mulL 2 (.add vB (.num 1))) [.l 1 vA (.mulL 2 vB)] aI this|exact cP [_,_] 1 (.add (.num 0) vA) (.mulL 2 (.add vB (.num 1))) [.l 1 vA (.mulL 2 vB)] aI this)
theorem jx:∀l:List Rw,(gc l).length≤l.length
 | []=>bS _
 |p::l=>by
  have:=jx l
  simp only[gc,z4,eG]
  split<;>simp only[List.length_cons,List.length_nil]<;>(first|exact cP [_,_] 1 (.add (.add (.num 0) (.num 1)) vA) (.add vB (.num 1)) [.l 1 vA vB] aI this|exact cP [_,_] 1 (.add (.num 0) vA) (.add vB (.num 1)) [.l 1 vA vB] aI this)
theorem ur:∀l:List Rw,aZ (gc l)=numsOf l
 | []=>rfl
 |p::l=>by
  simp only[gc,z4,numsOf,gJ,ur l]
  split<;>rfl
theorem uu:∀(l:List Rw)(tab:List (V × V)),(aZ (tab++cT l)).Nodup→tabOf tab l=tab++cT l
 | [],tab,_=>by simp[tabOf,cT]
 |p::l,tab,h=>by
  have e:xO tab p.d=tab++iH p.d:=by
   unfold xO iH
   split
   ·rename_i hk
    simp only[cT,iH,hk,if_true,gJ,fQ,um,List.nodup_append,List.nodup_cons] at h
    have h0:p.d.q.k0∉aZ tab:=λhm=>h.2.2 _ hm p.d.q.k0 (by simp) rfl
    have h1:p.d.q.k1∉aZ (tab++[(p.d.q.k0,.tup [.int p.d.num,.int 0])]):=by
     simp only[gJ,fQ,um,List.mem_append,List.mem_singleton,not_or]
     exact⟨λhm=>h.2.2 _ hm p.d.q.k1 (by simp) rfl,λe=>h.2.1.1.1 (by simp[e])⟩
    rw[lz h0,lz h1,List.append_assoc]
    rfl
   ·simp
  simp only[tabOf,e]
  refine ay (uu l _ (by simpa only[cT,List.append_assoc] using h)) (?_)
  simp only[cT,List.append_assoc]
theorem insI_perm(x:Int):∀l:List Int,(insI x l).Perm (x::l)
 | []=>List.Perm.refl _
 |y::r=>by
  simp only[insI]
  split
  ·exact List.Perm.refl _
  ·exact(List.Perm.cons _ (insI_perm x r)).trans (List.Perm.swap _ _ _)
theorem sortI_perm:∀l:List Int,(sortI l).Perm l
 | []=>List.Perm.refl _
 |x::r=>(insI_perm x _).trans (List.Perm.cons _ (sortI_perm r))
theorem iY(x:Int):∀l:List Int,l.Pairwise (· ≤ ·)→(insI x l).Pairwise (· ≤ ·)
 | [],_=>by simp[insI]
 |y::r,h=>by
  simp only[insI]
  rw[List.pairwise_cons] at h
  split
  ·rename_i hx
   exact List.pairwise_cons.mpr ⟨λz hz=>by rcases eH hz with rfl|hz;exact hx;exact Int.le_trans hx (h.1 z hz),List.pairwise_cons.mpr h⟩
  ·rename_i hx
   refine List.pairwise_cons.mpr ⟨λz hz=>?_,iY x r h.2⟩
   rcases eH ((insI_perm x r).mem_iff.mp hz) with rfl|hz
   ·exact(Int.le_of_lt (Int.not_le.mp hx))
   ·exact h.1 z hz
theorem g9:∀l:List Int,(sortI l).Pairwise (· ≤ ·)
 | []=>List.Pairwise.nil
 |x::r=>iY x _ (g9 r)
theorem GR{a b:List Int}(h:a.Perm b)(hb:b.Pairwise (· < ·)):sortI a=b:=
 List.Perm.eq_of_pairwise (le:=(· ≤ ·)) (λa b _ _ h1 h2=>Int.le_antisymm h1 h2) (g9 a) (hb.imp λh=>Int.le_of_lt h) ((sortI_perm a).trans h)
noncomputable def m9:List Rw→List Int
 | []=>[]
 |p::l=>if p.d.kept then p.d.num::m9 l else m9 l
theorem lA:∀l:List Rw,(m9 l).map V.int=numsOf l
 | []=>rfl
 |p::l=>by simp only[m9,numsOf];split<;>simp[lA l]
theorem jG:∀l:List Int,mw (l.map V.int)=some l
 | []=>rfl
 |x::l=>by simp[mw,jG l]
theorem xQ{l:List Int}:∀{b:List V},b.Perm (l.map V.int)→∃a:List Int,b=a.map V.int∧a.Perm l:=by
 intro b h
 have hb:∀v∈b,∃i,v=V.int i:=λv hv=>by
  refine aA (eK (h.mem_iff.mp hv)) λi _ e=>?_
  exact⟨i,e.symm⟩
 have:∃a:List Int,b=a.map V.int:=by
  clear h
  induction b with
  |nil=>exact⟨[],rfl⟩
  |cons x r ih=>
   refine bK (hb x (by simp)) λi bP=>?_
   refine ay bP ?_
   obtain⟨a,rfl⟩:=ih λv hv=>hb v (by simp[hv])
   exact⟨i::a,rfl⟩
 clear hb
 obtain⟨a,rfl⟩:=this
 refine⟨a,rfl,?_⟩
 have:=h.map (λv=>match v with|V.int i=>i|_=>0)
 simpa[List.map_map,Function.comp_def] using this
theorem Bm{a b:List (V × V)}(h:a.Perm b)(hn:(aZ b).Nodup):su a b=true:=by
 unfold su
 refine ay h.length_eq ?_
 simp only[BEq.rfl,Bool.true_and,List.all_eq_true]
 intro e he
 refine ay (fW hn (show(e.1,e.2)∈b from h.mem_iff.mp he)) (?_)
 simp
theorem GS(q:Q):kk q.k0=3:=rfl
theorem Cd(q:Q):kk q.k1=3:=rfl
theorem wg:∀(l:List Rw)(k:Nat),(k=0∨k=3)→(kindOf k l=0∨kindOf k l=3)
 | [],k,h=>h
 |p::l,k,h=>wg l _ (by split;exact .inr rfl;exact h)
theorem wh{e:V × V}{l:List Rw}(h:e∈cT l):bl 2 e.2=true:=by
 refine aA (gu.mp h) λp _ h=>?_
 obtain⟨_,rfl|rfl⟩:=zJ.mp h<;>rfl
theorem p8{i:Int}(h:0≤i)(h2:i≤100000):gY i=true:=by
 unfold gY
 rw[Bool.and_eq_true,decide_eq_true_iff,decide_eq_true_iff]
 exact⟨Int.lt_of_lt_of_le (by decide) h,Int.lt_of_le_of_lt h2 (by decide)⟩
theorem S6{σ:aa}{i:Int}(h:gY i=true):dJ .range (.int i) σ=some (.rJ i):=aC h
theorem Jb(σ:aa)(n:Nat)(hl:n≤1000):dJ .range (.int n) σ=some (.rJ n):=
 S6 (p8 (fF _) (gh (cV hl (by decide))))
theorem GU(σ:aa)(n:Nat)(h:n≤1000):jf (.rJ (n:Int)) σ=some (upTo 0 n):=
 aC ⟨fF n,gh h⟩
theorem forR{call:Call}{x:Nat}{ρ:Env}{it:ME}{b:List MS}{σ:aa}{n:Int}{l:List V}{r:Option (Fl × Env × aa)}(h:aH call ρ it σ=some (.rJ n,σ))(hi:jf (.rJ n) σ=some l)(e:zB call x b (.rJ n) σ l ρ σ=r):kH call ρ (.for x it b) σ=r:=by
 refine(?_:(aH call ρ it σ).bind _=_)
 refine ay h ?_
 refine(?_:(jf (.rJ n) σ).bind _=_)
 refine ay hi ?_
 exact e
theorem bC{call:Call}{ρ ρ':Env}{s:MS}{r:List MS}{σ τ:aa}{z:Option (Fl × Env × aa)}(h:kH call ρ s σ=some (.next,ρ',τ))(k:aP call ρ' r τ=z):aP call ρ (s::r) σ=z:=(aj (λo=>Option.bind o (pB call r)) h).trans k
theorem Yz(n:Nat){ah:List Rw}{σ:aa}{cnt:Int}{tab dR:List (V × V)}{kT kK:Nat}(hB:σ[0]? =some (di cnt))(hT:σ[1]? =some (.dict kT tab))(z0:kT=0∨kT=3)(hK:σ[2]? =some (.dict kK dR))(hkK:kK=1∨(kK=0∧dR=[]))
  (h12:σ[12]? =some (.list (ah.map λp=>V.loc p.rl)))(qj:σ[13]? =some (.list [.int cnt]))(rE:σ[14]? =some (.list (ah.map λp=>V.loc p.tl)))
  (hr:∀p∈ah,σ[p.tl]? =some (aK p.d)∧σ[p.rl]? =some (cj p.d))(hn:(aZ (cT ah)).Nodup)(hp:tab.Perm (cT ah))(hq:dR.Perm (gc ah))(Mz:(m9 ah).Pairwise (· < ·))(aV:ah.length≤20):
  ∃τ,af P0 (n+2) 66 [.loc 0,.loc 12,.loc 13,.loc 14] σ=some (.bool true,σ++τ):=by
 have hnum:(aZ dR).Perm ((m9 ah).map V.int):=by rw[lA,←ur];exact gT hq
 obtain⟨ns,e1,e2⟩:=xQ hnum
 have hs:sortI ns=m9 ah:=GR e2 Mz
 have hnd:(aZ dR).Nodup:=by
  clear aV
  rw[hnum.nodup_iff,List.Nodup,List.pairwise_map]
  exact Mz.imp λh e=>by cases e;exact qq [_] [.s 1 vA vA] aI h
 have l1:=jx ah
 have l2:=hq.length_eq
 obtain⟨x',y',e⟩:=xP n (m:=ah.length) (gm:=σ++[.dict 0 []]++[.list []]) (c:= .loc 13) (last:=cnt) (dR:=dR) hB (.inr trivial) h12 rE ah 0 none none 0 [] [] (λj p hj=>by
  have hm:p∈ah:=iy hj
  refine⟨by simp[hj],by simp[hj],(hr p hm).1,(hr p hm).2,GS _,Cd _,λhk=>?_⟩
  have hm':(V.int p.d.num,V.loc p.tl)∈dR:=hq.mem_iff.mpr (nJ.mpr ⟨p,hm,Cc.mpr ⟨hk,rfl⟩⟩)
  refine⟨?_,fW hnd hm'⟩
  clear l2 l1 hnd e2 hnum aV Mz hq rE
  rcases hkK with rfl|⟨_,rfl⟩
  ·exact hK
  ·cases hm') (.inl rfl) (by exact cP [_] 1 (.add (.num 0) vA) (.num 100) [.l 1 vA (.num 20)] aI aV) (by simp;exact cP [_] 1 (.mulL 2 vA) (.num 400) [.l 2 vA (.num 20)] aI aV) (by simp;exact cP [_] 1 vA (.num 400) [.l 1 vA (.num 20)] aI aV)
 rw[uu ah [] (by simpa using hn)] at e
 simp only[List.nil_append] at e
 refine⟨[.dict (kindOf 0 ah) (cT ah),.list (numsOf ah)],?_⟩
 have i0:=In.of hB
 have hk2:kK≤1:=by rcases hkK with rfl|⟨rfl,_⟩<;>exact aD rfl
 have S7:dR.length<64:=by exact ltN [_,_,_] 1 vA (.num 64) [.l 1 vB (.num 20),.l 1 vC vB,.e 1 vA vC] aI aV l1 l2
 have Py:ah.length≤1000:=by exact cP [_] 1 vA (.num 1000) [.l 1 vA (.num 20)] aI aV
 have f1:(tab.all λx=>bl 2 x.2)=true:=List.all_eq_true.mpr λx hx=>wh (hp.mem_iff.mp hx)
 have f2:((cT ah).all λx=>bl 2 x.2)=true:=List.all_eq_true.mpr λx hx=>wh hx
 have e3:mw (dR.map (·.1))=some ns:=by rw[show dR.map (·.1)=aZ dR from rfl,e1,jG]
 have f3:((numsOf ah).all λx=>bl 5 x)=true:=List.all_eq_true.mpr λx hx=>by
  rw[←lA] at hx
  refine aA (eK hx) λi _ e=>?_
  rw[←e];rfl
 have e4:(sortI ns).map V.int=numsOf ah:=by rw[hs,lA]
 have YA:(σ++[O.dict (kindOf 0 ah) (cT ah)]++[O.list (numsOf ah)])[σ.length]? =some (.dict (kindOf 0 ah) (cT ah)):=bF (uU rfl)
 have YB:(σ++[O.dict (kindOf 0 ah) (cT ah)]++[O.list (numsOf ah)])[σ.length+1]? =some (.list (numsOf ah)):=uU (by simp)
 have u1:dJ .len (.loc 12) (σ++[.dict 0 []]++[.list []])=some (.int ah.length):=(Gr (bF (bF h12)) (by rw[List.length_map];exact cP [_] 1 vA (.num 100000) [.l 1 vA (.num 20)] aI aV)).trans (aj (λk:Nat=>some (V.int k)) (List.length_map ..))
 have g0:(σ++[O.dict (kindOf 0 ah) (cT ah)]++[O.list (numsOf ah)])[0]? =some (di cnt):=bF (bF hB)
 have g1:(σ++[O.dict (kindOf 0 ah) (cT ah)]++[O.list (numsOf ah)])[1]? =some (.dict kT tab):=bF (bF hT)
 have g2:(σ++[O.dict (kindOf 0 ah) (cT ah)]++[O.list (numsOf ah)])[2]? =some (.dict kK dR):=bF (bF hK)
 have YC:(σ++[O.dict (kindOf 0 ah) (cT ah)]++[O.list (numsOf ah)])[13]? =some (.list [.int cnt]):=bF (bF qj)
 have z:=forR (call:=af P0 (n+1)) (it:= .bH .range 84 (.bH .len 0 (.var 1))) ((ne (af P0 (n+1)) [some (.loc 0),some (.loc 12),some (.loc 13),some (.loc 14),some (.loc σ.length),some (.loc (σ.length+1)),none,none] (.bH .range 84 (.bH .len 0 (.var 1))) (σ++[.dict 0 []]++[.list []]) _ λ_ _ h=>h) u1 (Jb _ _ Py)) (GU _ _ Py) e
 generalize S8:(σ++[O.dict (kindOf 0 ah) (cT ah)]++[O.list (numsOf ah)])=σ' at*
 have q1:cX .eq (.lst ((sortI ns).map V.int)) (.loc (σ.length+1)) σ'=some true:=by
  refine ay e4 (?_)
  refine(aj (Eh (numsOf ah)) YB).trans ?_
  exact(aC (Bool.and_eq_true_iff.mpr ⟨f3,f3⟩)).trans (aj some (fk rfl))
 have q2:dJ .sorted (.loc 2) σ'=some (.lst ((sortI ns).map V.int)):=
  (aj JL g2).trans ((aC ⟨hk2,S7⟩).trans (aj (Option.map λl=>V.lst ((sortI l).map .int)) e3))
 have q3:cX .eq (.loc 1) (.loc σ.length) σ'=some true:=by
  show Eg σ'[1]? σ'[σ.length]? =_
  refine ay g1 (ay YA (?_))
  exact(aC ⟨z0,wg ah 0 (.inl rfl),f1,f2⟩).trans (aj some (Bm hp hn))
 have hr:=(nB (af P0 (n+1)) [some (.loc 0),some (.loc 12),some (.loc 13),some (.loc 14),some (.loc σ.length),some (.loc (σ.length+1)),x',y'] (Qt.drop 3) σ') (gA g0 rfl) q2 q1 (gA g0 rfl) q3 (gA g0 rfl) (Ea YC rfl) (eqT rfl) (gA g0 rfl) rfl
 have hz:=bC (r:=Qt.drop 3) z hr
 rw[←S8,show σ.length+1=(σ++[O.dict 0 []]).length from(eG (as:=σ) (bs:=[O.dict 0 []])).symm] at hz
 exact IS (d:=Ut) (ρ:=[some (.loc 0),some (.loc 12),some (.loc 13),some (.loc 14),none,none,none,none]) 2 rfl rfl λφ=>φ rfl (hz.trans (aj (λz=>some (Fl.ret _,_,z)) (List.append_assoc ..)))
structure WQ(q:Q):Prop where
 ne:q.a1≠q.a2
 or:(((q.ai=2∧q.proto=17)∨(q.ai=10∧q.proto=17)∨(q.ai=2∧q.proto=47))∧q.w3=0∧q.w4=0∧q.x=q.p2∧q.y=q.p1∧q.eE=false)
  ∨(((q.ai=2∧q.proto=1∧(q.w3=8∨q.w3=13∨q.w3=15∨q.w3=17))∨(q.ai=10∧q.proto=58∧q.w3=128))∧(q.w4=0∨q.w4=1)∧q.p1=q.p2∧q.x=256*q.w3+q.w4∧q.y=256*bV q.ai q.w3+q.w4)
noncomputable def Q.pk(q:Q):V:= .tup [.int q.ai,.int q.proto,.int q.a1,.int q.p1,.int q.a2,.int (if q.eE then q.y else q.x)]
noncomputable def Q.key(q:Q):V:= .tup [.int q.zone,q.pk]
theorem uv(q:Q):kk q.key=3:=rfl
theorem Jc{q:Q}(h:q.eE=false):q.key=q.k0:=by simp[Q.key,Q.pk,Q.k0,Q.t,h]
structure Ic(r q:Q):Prop where
 i:q.proto=1∨q.proto=58
 p:r.p1=r.p2
 p':q.p1=q.p2
 xx:r.x=q.x↔r.w3=q.w3∧r.w4=q.w4
 yy:r.y=q.y↔r.w3=q.w3∧r.w4=q.w4
 xy:r.x≠q.y
 yx:r.y≠q.x
structure Pl(r q:Q):Prop where
 n:¬(q.proto=1∨q.proto=58)
 a:q.eE=false
 w:r.w3=q.w3∧r.w4=q.w4
 x:r.x=r.p2
 x':q.x=q.p2
 y:r.y=r.p1
 y':q.y=q.p1
noncomputable def Nh(f:Int):List Int:=if f=2 then [8,13,15,17] else [128]
theorem YD:∀w∈Nh 2,∀v∈Nh 2,(bV 2 w=bV 2 v→w=v)∧bV 2 w≠v∧bV 2 v≠w:=by decide
theorem S9:∀w∈Nh 10,∀v∈Nh 10,(bV 10 w=bV 10 v→w=v)∧bV 10 w≠v∧bV 10 v≠w:=by decide
theorem Pz{a b c d:Int}(hc:c=0∨c=1)(hd:d=0∨d=1)(h:256*a+c=256*b+d):a=b∧c=d:=by lia
theorem PA{q:Q}(h:(q.ai=2∧q.proto=1∧(q.w3=8∨q.w3=13∨q.w3=15∨q.w3=17))∨(q.ai=10∧q.proto=58∧q.w3=128)):(q.ai=2∨q.ai=10)∧(q.proto=1∨q.proto=58)∧q.w3∈Nh q.ai:=by
 rcases h with⟨h1,h2,h3⟩|⟨h1,h2,h3⟩
 ·exact⟨.inl h1,.inl h2,by rw[h1];simpa[Nh] using h3⟩
 ·exact⟨.inr h1,.inr h2,by rw[h1,h3];decide⟩
theorem Tc{q:Q}(h:(q.ai=2∧q.proto=17)∨(q.ai=10∧q.proto=17)∨(q.ai=2∧q.proto=47)):¬(q.proto=1∨q.proto=58):=by
 rcases h with⟨_,h⟩|⟨_,h⟩|⟨_,h⟩<;>rw[h]<;>decide
theorem cx{r q:Q}(hr:WQ r)(hq:WQ q)(hf:r.ai=q.ai)(hp:r.proto=q.proto):Ic r q∨Pl r q:=by
 rcases hr.or with⟨a1,a2,a3,a4,a5,_⟩|⟨a1,a2,a3,a4,a5⟩<;>rcases hq.or with⟨b1,b2,b3,b4,b5,b6⟩|⟨b1,b2,b3,b4,b5⟩
 ·exact .inr ⟨Tc b1,b6,⟨a2.trans b2.symm,a3.trans b3.symm⟩,a4,b4,a5,b5⟩
 ·exact(Tc a1 (hp▸(PA b1).2.1)).elim
 ·exact(Tc b1 (hp▸(PA a1).2.1)).elim
 ·refine gj (PA a1) λf1 _ m1=>?_
  refine gj (PA b1) λ_ _ m2=>?_
  rw[←hf] at m2 b5
  have ak:(bV r.ai r.w3=bV r.ai q.w3→r.w3=q.w3)∧bV r.ai r.w3≠q.w3∧bV r.ai q.w3≠r.w3:=by
   rcases f1 with f|f<;>rw[f] at m1 m2⊢
   ·exact YD _ m1 _ m2
   ·exact S9 _ m1 _ m2
  refine .inl ⟨(PA b1).2.1,a3,b3,⟨λh=>?_,λh=>?_⟩,⟨λh=>?_,λh=>?_⟩,λh=>?_,λh=>?_⟩
  ·rw[a4,b4] at h;exact Pz a2 b2 h
  ·exact ay a4 (ay b4 (ay h.1 (ay h.2 (rfl))))
  ·rw[a5,b5] at h;exact⟨ak.1 (Pz a2 b2 h).1,(Pz a2 b2 h).2⟩
  ·exact ay a5 (ay b5 (ay h.1 (ay h.2 (rfl))))
  ·rw[a4,b5] at h;exact ak.2.2 (Pz a2 b2 h).1.symm
  ·rw[a5,b4] at h;exact ak.2.1 (Pz a2 b2 h).1
theorem PB{r q:Q}(hr:WQ r)(hq:WQ q):r.k0=q.key↔gq r q∧l8 r q:=by
 have e:(r.k0=q.key)↔(r.zone=q.zone∧r.ai=q.ai∧r.proto=q.proto∧r.a1=q.a1∧r.p1=q.p1∧r.a2=q.a2∧r.x=(if q.eE then q.y else q.x)):=by
  simp[Q.k0,Q.t,Q.key,Q.pk]
 rw[e]
 constructor
 ·rintro⟨h1,h2,h3,h4,h5,h6,h7⟩
  rcases cx hr hq h2 h3 with c|c
  ·cases ha:q.eE<;>rw[ha] at h7
   ·exact⟨⟨h1,h2,h3,c.xx.mp h7⟩,h4,h5,h6,c.p.symm.trans (h5.trans c.p'),ha⟩
   ·exact(c.xy h7).elim
  ·rw[c.a] at h7
   exact⟨⟨h1,h2,h3,c.w⟩,h4,h5,h6,c.x.symm.trans (h7.trans c.x'),c.a⟩
 ·rintro⟨⟨h1,h2,h3,h4⟩,h6,h7,h8,h9,ha⟩
  refine ay ha (?_)
  exact⟨h1,h2,h3,h6,h7,h8,(cx hr hq h2 h3).elim (λc=>c.xx.mpr h4) λc=>c.x.trans (h9.trans c.x'.symm)⟩
theorem FZ{r q:Q}(hr:WQ r)(hq:WQ q):r.k1=q.key↔gq r q∧m5 r q:=by
 have e:(r.k1=q.key)↔(r.zone=q.zone∧r.ai=q.ai∧r.proto=q.proto∧r.a2=q.a1∧r.p2=q.p1∧r.a1=q.a2∧r.y=(if q.eE then q.y else q.x)):=by
  simp[Q.k1,Q.b,Q.key,Q.pk]
 rw[e]
 constructor
 ·rintro⟨h1,h2,h3,h4,h5,h6,h7⟩
  rcases cx hr hq h2 h3 with c|c
  ·cases ha:q.eE<;>rw[ha] at h7
   ·exact(c.yx h7).elim
   ·exact⟨⟨h1,h2,h3,c.yy.mp h7⟩,h6,c.p.trans (h5.trans c.p'),h4,h5,λz=>by rw[ha] at z;exact nomatch z.2⟩
  ·rw[c.a] at h7
   exact⟨⟨h1,h2,h3,c.w⟩,h6,c.y.symm.trans (h7.trans c.x'),h4,h5,λz=>c.n z.1⟩
 ·rintro⟨⟨h1,h2,h3,h4⟩,h6,h7,h8,h9,DL⟩
  refine⟨h1,h2,h3,h8,h9,h6,?_⟩
  rcases cx hr hq h2 h3 with c|c
  ·cases ha:q.eE
   ·exact(DL ⟨c.i,ha⟩).elim
   ·exact c.yy.mpr h4
  ·refine ay c.a ?_
   exact c.y.trans (h7.trans c.x'.symm)
theorem Td{r q:Q}(hr:WQ r)(hq:WQ q)(ha:q.eE=false)(h:r.k0=q.k1∨r.k1=q.k1):gq r q∧(l8 r q∨m5 r q):=by
 rcases h with h|h
 ·have h':r.zone=q.zone∧r.ai=q.ai∧r.proto=q.proto∧r.a1=q.a2∧r.p1=q.p2∧r.a2=q.a1∧r.x=q.y:=by
   simpa[Q.k0,Q.k1,Q.t,Q.b] using h
  refine Ep h' λh1 h2 h3 h4 h5 h6 h7=>?_
  rcases cx hr hq h2 h3 with c|c
  ·exact(c.xy h7).elim
  ·exact⟨⟨h1,h2,h3,c.w⟩,.inr ⟨h4,h5,h6,c.x.symm.trans (h7.trans c.y'),λz=>c.n z.1⟩⟩
 ·have h':r.zone=q.zone∧r.ai=q.ai∧r.proto=q.proto∧r.a2=q.a2∧r.p2=q.p2∧r.a1=q.a1∧r.y=q.y:=by
   simpa[Q.k0,Q.k1,Q.t,Q.b] using h
  refine Ep h' λh1 h2 h3 h4 h5 h6 h7=>?_
  rcases cx hr hq h2 h3 with c|c
  ·exact⟨⟨h1,h2,h3,c.yy.mp h7⟩,.inl ⟨h6,c.p.trans (h5.trans c.p'.symm),h4,h5,ha⟩⟩
  ·exact⟨⟨h1,h2,h3,c.w⟩,.inl ⟨h6,c.y.symm.trans (h7.trans c.y'),h4,h5,ha⟩⟩
theorem uw{q:Q}(h:WQ q):q.k0≠q.k1:=by
 intro e
 have:q.a1=q.a2:=by
  have:q.a1=q.a2∧q.p1=q.p2∧q.a2=q.a1∧q.x=q.y:=by simpa[Q.k0,Q.k1,Q.t,Q.b] using e
  exact this.1
 exact h.ne this
theorem zK{r q:Q}(h:WQ q)(h1:l8 r q)(h2:m5 r q):False:=h.ne (h1.1.symm.trans h2.1)
theorem qL{k:V}{d:Dt}:k∈aZ (iH d)↔d.kept=true∧(k=d.q.k0∨k=d.q.k1):=by
 unfold iH;split<;>simp_all
theorem xR{d:Dt}{q:Q}(hd:WQ d.q)(hq:WQ q):g8 d q↔q.key∈aZ (iH d):=by
 rw[qL,eq_comm (a:=q.key),eq_comm (a:=q.key),PB hd hq,FZ hd hq]
 constructor
 ·rintro⟨h1,h2,h3|h3⟩
  ·exact⟨h1,.inl ⟨h2,h3⟩⟩
  ·exact⟨h1,.inr ⟨h2,h3⟩⟩
 ·rintro⟨h1,⟨h2,h3⟩|⟨h2,h3⟩⟩
  ·exact⟨h1,h2,.inl h3⟩
  ·exact⟨h1,h2,.inr h3⟩
theorem Jd{d:Dt}{q:Q}(hq:WQ q)(h:g8 d q):∃dir,qI d q dir:=by
 obtain⟨_,_,h|h⟩:=h
 ·exact⟨0,.inl ⟨rfl,h,λh2=>zK hq h h2⟩⟩
 ·exact⟨1,.inr ⟨rfl,λh2=>zK hq h2 h,h⟩⟩
theorem GV{d:Dt}{q:Q}{dir:Int}(h:qI d q dir):dir=0∨dir=1:=h.elim (λh=> .inl h.1) λh=> .inr h.1
theorem Ce{d:Dt}{q:Q}{dir:Int}(hd:WQ d.q)(hq:WQ q)(hk:d.kept=true)(hw:gq d.q q)(h:qI d q dir):(q.key,V.tup [.int d.num,.int dir])∈iH d:=by
 rw[zJ]
 refine⟨hk,?_⟩
 rcases h with⟨rfl,h,_⟩|⟨rfl,_,h⟩
 ·exact .inl (by rw[(PB hd hq).mpr ⟨hw,h⟩])
 ·exact .inr (by rw[(FZ hd hq).mpr ⟨hw,h⟩])
structure aN(ah:List Rw)(cnt:Int):Prop where
 wq:∀p∈ah,WQ p.d.q
 ask:∀p∈ah,p.d.q.eE=false
 stK:∀p∈ah,p.d.kept=true→(p.d.st=8∨p.d.st=10∨p.d.st=14)
 stN:∀p∈ah,p.d.kept=false→(p.d.st=0∨p.d.st=520∨p.d.st=522∨p.d.st=526)
 nd:(aZ (cT ah)).Nodup
 inc:(ah.map (·.d.num)).Pairwise (· < ·)
 le:∀p∈ah,p.d.num≤cnt
 MB:(ah.map (·.rl)).Nodup
 Ni:(ah.map (·.tl)).Nodup
 hi:∀p∈ah,15≤p.rl∧15≤p.tl
noncomputable def Ev(ah av:List Rw):Prop:=∀p∈ah,∃p'∈av,p'.rl=p.rl∧p'.tl=p.tl∧p'.d.q=p.d.q∧p'.d.num=p.d.num∧(p'.d.st=0→p.d.st=0)
theorem Ev.refl(r:List Rw):Ev r r:=λp h=>⟨p,h,rfl,rfl,rfl,rfl,id⟩
theorem Ev.trans{a b c:List Rw}(h1:Ev a b)(h2:Ev b c):Ev a c:=λp h=>by
 refine KU (h1 p h) λp1 m1 a1 a2 a3 a4 a5=>?_
 refine KU (h2 p1 m1) λp2 m2 b1 b2 b3 b4 b5=>?_
 exact⟨p2,m2,b1.trans a1,b2.trans a2,b3.trans a3,b4.trans a4,λe=>a5 (b5 e)⟩
theorem rF{α:Type}{l1 l2:List α}{p x:α}(h:x∈l1):x∈l1++p::l2:=List.mem_append.mpr (.inl h)
theorem fR{α:Type}{l1 l2:List α}{p:α}:p∈l1++p::l2:=List.mem_append.mpr (.inr (.head _))
theorem ux{α:Type}{l1 l2:List α}{p x:α}(h:x∈l2):x∈l1++p::l2:=List.mem_append.mpr (.inr (.tail _ h))
theorem qM{α:Type}{l1 l2:List α}{p x:α}{G:Prop}(h:x∈l1++p::l2)(k1:x∈l1→G)(k2:x=p→G)(k3:x∈l2→G):G:=(List.mem_append.mp h).elim k1 λh=>(eH h).elim k2 k3
theorem Ev.upd{l1 l2:List Rw}{p p':Rw}(h1:p'.rl=p.rl)(h2:p'.tl=p.tl)(h3:p'.d.q=p.d.q)(h4:p'.d.num=p.d.num)(h5:p'.d.st=0→p.d.st=0):Ev (l1++p::l2) (l1++p'::l2):=λx h=>
 qM h (λh=>⟨x,rF h,rfl,rfl,rfl,rfl,id⟩) (λe=>e▸⟨p',fR,h1,h2,h3,h4,h5⟩) λh=>⟨x,ux h,rfl,rfl,rfl,rfl,id⟩
theorem Ev.add(l:List Rw)(p:Rw):Ev l (l++[p]):=λx h=>⟨x,List.mem_append.mpr (.inl h),rfl,rfl,rfl,rfl,id⟩
theorem mem_mid{α:Type}{l1 l2:List α}{p x:α}:x∈l1++p::l2↔x∈l1∨x=p∨x∈l2:=List.mem_append.trans (or_congr Iff.rfl List.mem_cons)
theorem nK{P:Rw→Prop}{l1 l2:List Rw}{p p':Rw}(h:∀x∈l1++p::l2,P x)(hp:P p→P p'):∀x∈l1++p'::l2,P x:=λx m=>qM m (λm=>h x (rF m)) (λe=>e▸hp (h p fR)) λm=>h x (ux m)
theorem p9{α:Type}{f:Rw→α}{l1 l2:List Rw}{p p':Rw}(h:f p'=f p):(l1++p'::l2).map f=(l1++p::l2).map f:=by rw[List.map_append,List.map_append,fm,fm,h]
theorem aN.upd{l1 l2:List Rw}{p p':Rw}{cnt:Int}(R:aN (l1++p::l2) cnt)(h1:p'.rl=p.rl)(h2:p'.tl=p.tl)(h3:p'.d.q=p.d.q)(h4:p'.d.num=p.d.num)
  (hK:p'.d.kept=true→(p'.d.st=8∨p'.d.st=10∨p'.d.st=14))(hN:p'.d.kept=false→(p'.d.st=0∨p'.d.st=520∨p'.d.st=522∨p'.d.st=526))(hd:(aZ (cT (l1++p'::l2))).Nodup):aN (l1++p'::l2) cnt:=
 ⟨nK R.wq λz=>h3▸z,nK R.ask λz=>h3▸z,nK R.stK λ_=>hK,nK R.stN λ_=>hN,hd,p9 (f:=(·.d.num)) h4▸R.inc,nK R.le λz=>h4▸z,p9 (f:=(·.rl)) h1▸R.MB,p9 (f:=(·.tl)) h2▸R.Ni,nK R.hi λz=>h1▸h2▸z⟩
theorem fS(l1 l2:List Rw)(p:Rw):cT (l1++p::l2)=cT l1++(iH p.d++cT l2):=by rw[pZ];rfl
theorem nL(l1 l2:List Rw)(p:Rw):gc (l1++p::l2)=gc l1++(z4 p++gc l2):=by rw[qK];rfl
theorem uy{d:Dt}(h:d.kept=false):iH d=[]:=by simp[iH,h]
theorem Cf{p:Rw}(h:p.d.kept=false):z4 p=[]:=by simp[z4,h]
theorem xS{d:Dt}(h:d.kept=true):iH d=[(d.q.k0,.tup [.int d.num,.int 0]),(d.q.k1,.tup [.int d.num,.int 1])]:=by simp[iH,h]
theorem xT{p:Rw}(h:p.d.kept=true):z4 p=[(.int p.d.num,.loc p.tl)]:=by simp[z4,h]
noncomputable def kill(d:Dt):Dt:={d with kept:=false,st:=d.st+512}
noncomputable def rG(p:Rw):Rw:={p with d:=kill p.d}
theorem aN.kill{l1 l2:List Rw}{p:Rw}{cnt:Int}(R:aN (l1++p::l2) cnt)(hk:p.d.kept=true):aN (l1++rG p::l2) cnt:=by
 have hs:=R.stK p (by simp) hk
 refine R.upd rfl rfl rfl rfl (λh=>by cases h) (λ_=>?_) ?_
 ·simp only[rG,Mine.L.kill];lia
 ·have:=R.nd
  rw[fS] at this⊢
  simp only[gJ] at this⊢
  refine List.Nodup.sublist ?_ this
  exact List.Sublist.append (List.Sublist.refl _) (List.Sublist.append (List.nil_sublist _) (List.Sublist.refl _))
noncomputable def Fd(ah:List Rw)(q:Q)(now:Int)(av:List Rw)(r:Option (Rw × Int)):Prop:=
 (r=none∧av=ah∧∀p∈ah,¬g8 p.d q)∨
 ∃l1 p l2 dir,ah=l1++p::l2∧p.d.kept=true∧gq p.d.q q∧qI p.d q dir∧(∀p∈l1,¬g8 p.d q)∧(∀p∈l2,¬g8 p.d q)∧
  ((now<p.d.eF∧av=ah∧r=some (p,dir))∨(¬now<p.d.eF∧av=l1++rG p::l2∧r=none))
theorem Cg{ah:List Rw}{cnt:Int}(R:aN ah cnt){q:Q}(hq:WQ q)(now:Int):∃av r,Fd ah q now av r:=by
 by_cases h:∃p∈ah,g8 p.d q
 ·refine aA h λp hm hh=>?_
  refine jo (List.append_of_mem hm) λl1 l2 cW=>?_
  subst cW
  refine bK (Jd hq hh) λdir hd=>?_
  have nd:=R.nd
  have hk:=(xR (R.wq p hm) hq).mp hh
  rw[fS,gJ,gJ,List.nodup_append] at nd
  refine gj nd λn1 n2 n3=>?_
  rw[List.nodup_append] at n2
  refine gj n2 λn4 n5 n6=>?_
  have hno:∀(l:List Rw),q.key∉aZ (cT l)→(∀p∈l,WQ p.d.q)→∀p∈l,¬g8 p.d q:=by
   intro l hl hw p' rL YE
   have:=(xR (hw p' rL) hq).mp YE
   apply hl
   simp only[aZ,List.mem_map] at this⊢
   refine aA this λe he hee=>?_
   exact⟨e,gu.mpr ⟨p',rL,he⟩,hee⟩
  have h1:=hno l1 (λhm'=>n3 _ hm' q.key (List.mem_append.mpr (.inl hk)) rfl) λp' rL=>R.wq p' (by simp[rL])
  have h2:=hno l2 (λhm'=>n6 q.key hk _ hm' rfl) λp' rL=>R.wq p' (by simp[rL])
  by_cases hl:now<p.d.eF
  ·exact⟨_,_,.inr ⟨l1,p,l2,dir,rfl,hh.1,hh.2.1,hd,h1,h2,.inl ⟨hl,rfl,rfl⟩⟩⟩
  ·exact⟨_,_,.inr ⟨l1,p,l2,dir,rfl,hh.1,hh.2.1,hd,h1,h2,.inr ⟨hl,rfl,rfl⟩⟩⟩
 ·exact⟨ah,none,.inl ⟨rfl,rfl,λp hp hh=>h ⟨p,hp,hh⟩⟩⟩
theorem Fd.el{ah av:List Rw}{q:Q}{now:Int}{r:Option (Rw × Int)}{P:List Rw→List Rw→Option (Rw × Int)→Prop}(F:Fd ah q now av r)(k0:∀a,(∀p∈a,¬g8 p.d q)→P a a none)
  (k1:∀l1 p l2 dir,p.d.kept=true→gq p.d.q q→qI p.d q dir→(∀p∈l1,¬g8 p.d q)→(∀p∈l2,¬g8 p.d q)→now<p.d.eF→P (l1++p::l2) (l1++p::l2) (some (p,dir)))
  (k2:∀l1 p l2 dir,p.d.kept=true→gq p.d.q q→qI p.d q dir→(∀p∈l1,¬g8 p.d q)→(∀p∈l2,¬g8 p.d q)→¬now<p.d.eF→P (l1++p::l2) (l1++rG p::l2) none):P ah av r:=
 F.elim (λz=>gj z λe1 e2 h=>ay e1 (ay e2 (k0 ah h))) λz=>Rq z λl1 p l2 dir e h1 h2 h3 h4 h5 z=>ay e (z.elim (λz=>gj z λh e1 e2=>ay e2 (ay (e1.trans e) (k1 l1 p l2 dir h1 h2 h3 h4 h5 h))) λz=>gj z λh e1 e2=>ay e2 (ay e1 (k2 l1 p l2 dir h1 h2 h3 h4 h5 h)))
theorem Fd.ok{ah av:List Rw}{cnt now:Int}{q:Q}{r:Option (Rw × Int)}(F:Fd ah q now av r)(R:aN ah cnt):aN av cnt:=
 F.el (P:=λa b _=>aN a cnt→aN b cnt) (λ_ _ R=>R) (λ_ _ _ _ _ _ _ _ _ _ R=>R) (λ_ _ _ _ hk _ _ _ _ _ R=>R.kill hk) R
theorem Fd.ev{ah av:List Rw}{now:Int}{q:Q}{r:Option (Rw × Int)}(F:Fd ah q now av r):Ev ah av:=
 F.el (P:=λa b _=>Ev a b) (λ_ _=>Ev.refl _) (λ_ _ _ _ _ _ _ _ _ _=>Ev.refl _) (λ_ _ _ _ _ _ _ _ _ _=>Ev.upd rfl rfl rfl rfl λh=>absurd h (Nat.succ_ne_zero _))
theorem Fd.len{ah av:List Rw}{now:Int}{q:Q}{r:Option (Rw × Int)}(F:Fd ah q now av r):av.length=ah.length:=
 F.el (P:=λa b _=>b.length=a.length) (λ_ _=>rfl) (λ_ _ _ _ _ _ _ _ _ _=>rfl) (λ_ _ _ _ _ _ _ _ _ _=>by rw[eG,eG];rfl)
theorem Fd.rls{ah av:List Rw}{now:Int}{q:Q}{r:Option (Rw × Int)}(F:Fd ah q now av r):av.map (·.rl)=ah.map (·.rl)∧av.map (·.tl)=ah.map (·.tl):=
 F.el (P:=λa b _=>b.map (·.rl)=a.map (·.rl)∧b.map (·.tl)=a.map (·.tl)) (λ_ _=>⟨rfl,rfl⟩) (λ_ _ _ _ _ _ _ _ _ _=>⟨rfl,rfl⟩) (λ_ _ _ _ _ _ _ _ _ _=>⟨p9 rfl,p9 rfl⟩)
theorem Fd.none{ah av:List Rw}{now:Int}{q:Q}(F:Fd ah q now av none):∀p∈av,¬g8 p.d q:=
 F.el (P:=λ_ b r=>r=Option.none→∀p∈b,¬g8 p.d q) (λ_ h _=>h) (λ_ _ _ _ _ _ _ _ _ _ e=>nomatch e) (λ_ p _ _ _ _ _ h1 h2 _ _ x hx=>qM hx (h1 x) (λe z=>Bool.false_ne_true ((aj (λp:Rw=>p.d.kept) e).symm.trans z.1)) (h2 x)) rfl
theorem nc{ah av:List Rw}{q:Q}{now dir:Int}{p:Rw}{G:Prop}(F:Fd ah q now av (some (p,dir)))(k:∀l1 l2,av=ah→now<p.d.eF→ah=l1++p::l2→p.d.kept=true→gq p.d.q q→qI p.d q dir→(∀p∈l1,¬g8 p.d q)→(∀p∈l2,¬g8 p.d q)→G):G:=
 F.el (P:=λa b r=>(∀l1 l2,b=a→now<p.d.eF→a=l1++p::l2→p.d.kept=true→gq p.d.q q→qI p.d q dir→(∀p∈l1,¬g8 p.d q)→(∀p∈l2,¬g8 p.d q)→G)→r=some (p,dir)→G)
  (λ_ _ _ e=>nomatch e) (λl1 p' l2 dir' hk hw hd h1 h2 hl k e=>by
   obtain⟨rfl,rfl⟩:=Prod.mk.inj (aX e)
   exact k l1 l2 rfl hl rfl hk hw hd h1 h2) (λ_ _ _ _ _ _ _ _ _ _ _ e=>nomatch e) k rfl
theorem Fd.some{ah av:List Rw}{now dir:Int}{q:Q}{p:Rw}(F:Fd ah q now av (some (p,dir))):av=ah∧now<p.d.eF∧∃l1 l2,ah=l1++p::l2∧p.d.kept=true∧gq p.d.q q∧qI p.d q dir:=
 nc F λl1 l2 e hl e2 hk hw hd _ _=>⟨e,hl,l1,l2,e2,hk,hw,hd⟩
theorem GW{ah:List Rw}{q:Q}(hq:WQ q)(hw:∀p∈ah,WQ p.d.q)(h:∀p∈ah,¬g8 p.d q):q.key∉aZ (cT ah):=by
 intro hm
 simp only[aZ,List.mem_map] at hm
 refine aA hm λe he hee=>?_
 refine aA (gu.mp he) λp hp he=>?_
 exact h p hp ((xR (hw p hp) hq).mpr (by rw[←hee];exact m8 he))
theorem Je{ah:List Rw}{q:Q}(hq:WQ q)(ha:q.eE=false)(hw:∀p∈ah,WQ p.d.q)(h:∀p∈ah,¬g8 p.d q):q.k1∉aZ (cT ah):=by
 intro hm
 simp only[aZ,List.mem_map] at hm
 refine aA hm λe he hee=>?_
 refine aA (gu.mp he) λp hp he=>?_
 have hk:=qL.mp (m8 (k:=e.1) (v:=e.2) he)
 rw[hee] at hk
 exact h p hp ⟨hk.1,Td (hw p hp) hq ha (hk.2.imp Eq.symm Eq.symm)⟩
theorem lZ:∀{l:List Rw},(l.map (·.d.num)).Pairwise (· < ·)→(m9 l).Pairwise (· < ·)
 | [],_=>List.Pairwise.nil
 |p::l,h=>by
  simp only[fm,List.pairwise_cons] at h
  have hs:∀{l:List Rw}{x:Int},x∈m9 l→x∈l.map (·.d.num):=by
   intro l
   induction l with
   |nil=>intro x hx;cases hx
   |cons p l ih=>
    intro x hx
    simp only[m9] at hx
    split at hx
    ·rcases eH hx with rfl|hx
     ·simp
     ·exact List.mem_cons_of_mem _ (ih hx)
    ·exact List.mem_cons_of_mem _ (ih hx)
  simp only[m9]
  split
  ·exact List.pairwise_cons.mpr ⟨λx hx=>h.1 x (hs hx),lZ h.2⟩
  ·exact lZ h.2
structure Ch(M:Nat→Prop)(σ τ:aa):Prop where
 len:σ.length≤τ.length
 old:∀i,i<σ.length→¬M i→τ[i]? =σ[i]?
theorem Ch.refl(M:Nat→Prop)(σ:aa):Ch M σ σ:=⟨bS _,λ_ _ _=>rfl⟩
theorem Ch.trans{M:Nat→Prop}{a b c:aa}(h1:Ch M a b)(h2:Ch M b c):Ch M a c:=
 ⟨cV h1.len h2.len,λi hi hm=>(h2.old i (Nat.lt_of_lt_of_le hi h1.len) hm).trans (h1.old i hi hm)⟩
theorem Ch.mono{M N:Nat→Prop}{a b:aa}(h:Ch M a b)(hm:∀i,M i→N i):Ch N a b:=⟨h.len,λi hi hn=>h.old i hi λh=>hn (hm i h)⟩
theorem Ch.set{M:Nat→Prop}{a b:aa}(h:Ch M a b){i:Nat}(o:O)(hi:M i):Ch M a (b.set i o):=
 ⟨by simpa using h.len,λj hj hm=>by rw[bh i j b o (λe=>hm (e▸hi))];exact h.old j hj hm⟩
theorem Ch.app{M:Nat→Prop}{a b:aa}(h:Ch M a b)(c:aa):Ch M a (b++c):=
 ⟨by rw[eG];exact cV h.len (Nat.le_add_right _ _),λj hj hm=>by rw[fz j b c (Nat.lt_of_lt_of_le hj h.len)];exact h.old j hj hm⟩
theorem Ch.get{M:Nat→Prop}{a b:aa}(h:Ch M a b){i:Nat}{o:O}(hi:a[i]? =some o)(hm:¬M i):b[i]? =some o:=(h.old i (In.of hi) hm).trans hi
theorem i8{σ:aa}{i j:Nat}{a b:O}(hi:σ[i]? =some a)(hj:σ[j]? =some b)(h:a≠b):i≠j:=λe=>h (by subst e;exact aX (hi.symm.trans hj))
noncomputable def ML(ah:List Rw)(i:Nat):Prop:=i=12∨i=13∨∃p∈ah,i=p.rl
noncomputable def MP(ah:List Rw)(i:Nat):Prop:=i=0∨i=1∨i=2∨∃p∈ah,i=p.tl
structure dj(σ:aa)(ah:List Rw)(cnt:Int):Prop where
 h12:σ[12]? =some (.list (ah.map λp=>V.loc p.rl))
 qj:σ[13]? =some (.list [.int cnt])
 hr:∀p∈ah,σ[p.rl]? =some (cj p.d)
structure cB(σ:aa)(ah:List Rw)(cnt:Int):Prop where
 hB:σ[0]? =some (di cnt)
 hT:∃kT tab,σ[1]? =some (.dict kT tab)∧(kT=3∨(kT=0∧tab=[]))∧tab.Perm (cT ah)
 hK:∃kK dR,σ[2]? =some (.dict kK dR)∧(kK=1∨(kK=0∧dR=[]))∧dR.Perm (gc ah)
 h3:σ[3]? =some qG
 h4:σ[4]? =some (.dict 0 [])
 h5:σ[5]? =some (.dict 2 [(.str 75,.fn 29),(.str 77,.fn 30)])
 h7:σ[7]? =some (.dict 2 [(.str 75,.fn 31),(.str 77,.fn 32),(.str 81,.fn 36)])
 h8:σ[8]? =some (.dict 2 [(.str 75,.fn 31),(.str 77,.fn 32),(.str 81,.fn 37)])
 DL:σ[10]? =some (.dict 2 [(.str 75,.fn 29),(.str 77,.fn 33)])
 ht:∀p∈ah,σ[p.tl]? =some (aK p.d)
theorem kB(a b:Dt):cj a≠aK b:=by intro e;simp[cj,aK] at e
theorem iM(a:Dt)(b:Q):cj a≠bR b:=by intro e;simp[cj,bR] at e
theorem dj.frame{M:Nat→Prop}{σ τ:aa}{ah:List Rw}{cnt:Int}(I:dj σ ah cnt)(C:Ch M σ τ)(Vj:¬M 12)(Vi:¬M 13)(mr:∀p∈ah,¬M p.rl):dj τ ah cnt:=
 ⟨C.get I.h12 Vj,C.get I.qj Vi,λp hp=>C.get (I.hr p hp) (mr p hp)⟩
theorem cB.frame{M:Nat→Prop}{σ τ:aa}{ah:List Rw}{cnt:Int}(I:cB σ ah cnt)(C:Ch M σ τ)(m:∀i,i≤10→¬M i)(mt:∀p∈ah,¬M p.tl):cB τ ah cnt:=by
 refine dY λG hG=>?_
 obtain⟨hB,⟨kT,tab,hT,hT2⟩,⟨kK,dR,hK,Ku⟩,h3,h4,h5,h7,h8,DL,ht⟩:=I
 refine hG ?_
 exact⟨C.get hB (m 0 (Nat.zero_le _)),⟨kT,tab,C.get hT (m 1 (aD rfl)),hT2⟩,⟨kK,dR,C.get hK (m 2 (aD rfl)),Ku⟩,C.get h3 (m 3 (aD rfl)),C.get h4 (m 4 (aD rfl)),C.get h5 (m 5 (aD rfl)),C.get h7 (m 7 (aD rfl)),C.get h8 (m 8 (aD rfl)),C.get DL (m 10 (aD rfl)),λp hp=>C.get (ht p hp) (mt p hp)⟩
theorem iI{l1 l2:List Rw}{p:Rw}{f:Rw→Nat}(h:((l1++p::l2).map f).Nodup):(∀x∈l1,f x≠f p)∧(∀x∈l2,f x≠f p):=by
 simp only[List.map_append,fm] at h
 rw[List.nodup_append,List.nodup_cons] at h
 refine dY λG hG=>?_
 obtain⟨h1,⟨h2,h3⟩,h4⟩:=h
 refine hG ?_
 exact⟨λx hx=>h4 _ (List.mem_map.mpr ⟨x,hx,rfl⟩) _ (by simp),λx hx e=>h2 (List.mem_map.mpr ⟨x,hx,e⟩)⟩
theorem dj.upd{σ:aa}{l1 l2:List Rw}{p p':Rw}{cnt:Int}(I:dj σ (l1++p::l2) cnt)(R:aN (l1++p::l2) cnt)(h:p'.rl=p.rl):dj (σ.set p.rl (cj p'.d)) (l1++p'::l2) cnt:=by
 have cN:=(R.hi p (by simp)).1
 have⟨n1,n2⟩:=iI R.MB
 refine⟨?_,?_,λx hx=>?_⟩
 ·rw[bh _ _ _ _ (by exact λbT=>bO [_] [.l 1 (.num 15) vA,.e 1 vA (.num 12)] aI cN bT),I.h12];simp[h]
 ·rw[bh _ _ _ _ (by exact λbT=>bO [_] [.l 1 (.num 15) vA,.e 1 vA (.num 13)] aI cN bT)];exact I.qj
 ·rcases mem_mid.mp hx with hx|rfl|hx
  ·rw[bh _ _ _ _ (n1 x hx).symm];exact I.hr x (by simp[hx])
  ·rw[h];exact cM _ _ _ (In.of (I.hr p (by simp)))
  ·rw[bh _ _ _ _ (n2 x hx).symm];exact I.hr x (by simp[hx])
noncomputable def GX:Option (Rw × Int)→V
 |none=> .tup [.none,.int 0]
 |some (p,dir)=> .tup [.loc p.rl,.int dir]
theorem fC{t k:Nat}(h:15≤t)(e:Nat.ble 15 k=false):t≠k:=λz=>Bool.false_ne_true (e.symm.trans (Nat.ble_eq.mpr (z▸h)))
theorem qa(n:Nat){σ:aa}{ah av:List Rw}{cnt now:Int}{q:Q}{s:Nat}{r:Option (Rw × Int)}(I:dj σ ah cnt)(R:aN ah cnt)(hs:σ[s]? =some (bR q))(F:Fd ah q now av r):
  ∃τ,af P0 (n+1) 62 [.loc 12,.loc s,.int now] σ=some (GX r,τ)∧dj τ av cnt∧Ch (ML ah) σ τ:=by
 refine F.el (P:=λa b r=>dj σ a cnt→aN a cnt→∃τ,af P0 (n+1) 62 [.loc 12,.loc s,.int now] σ=some (GX r,τ)∧dj τ b cnt∧Ch (ML a) σ τ) (λah hn I R=>?_) (λl1 p l2 dir hk hw hd h1 h2 hl I R=>?_) (λl1 p l2 dir hk hw hd h1 h2 hl I R=>?_) I R
 ·exact⟨σ,GG n hs (ah.map λp=>(p.rl,p.d)) (by rw[I.h12];simp[List.map_map,Function.comp_def]) (λx hx=>aA (eK hx) λp hp e=>e▸I.hr p hp) (λx hx=>aA (eK hx) λp hp e=>e▸hn p hp),I,Ch.refl _ _⟩
 ·exact⟨σ,zH n hs (l1.map λp=>(p.rl,p.d)) (l2.map λp=>(p.rl,p.d)) (p.rl,p.d) (by rw[I.h12];simp[List.map_map,Function.comp_def]) (λx hx=>aA (eK hx) λp' hp e=>e▸I.hr p' (rF hp)) (λx hx=>aA (eK hx) λp' hp e=>e▸h1 p' hp) (I.hr p fR) hk hw hd hl,I,Ch.refl _ _⟩
 ·have hp:=I.hr p fR
  refine dF (iI R.MB) λn1 n2=>⟨σ.set p.rl (cj (kill p.d)),?_,I.upd R (p':=rG p) rfl,(Ch.refl _ _).set _ (.inr (.inr ⟨p,fR,rfl⟩))⟩
  refine GH n hs (l1.map λp=>(p.rl,p.d)) (l2.map λp=>(p.rl,p.d)) (p.rl,p.d) (by rw[I.h12];simp[List.map_map,Function.comp_def]) (λx hx=>aA (eK hx) λp' hp e=>e▸I.hr p' (rF hp)) (λx hx=>aA (eK hx) λp' hp e=>e▸h1 p' hp) hp hk hw hd hl
   (λx hx=>aA (eK hx) λp' hp e=>e▸I.hr p' (ux hp)) (λx hx=>aA (eK hx) λp' hp e=>e▸h2 p' hp) (λx hx=>aA (eK hx) λp' hp e=>e▸n2 p' hp) (i8 hp hs (iM _ _)).symm ?_
  exact fC (R.hi p fR).1 rfl
theorem cB.upd{σ:aa}{l1 l2:List Rw}{p p':Rw}{cnt:Int}(I:cB σ (l1++p::l2) cnt)(R:aN (l1++p::l2) cnt)(h:p'.tl=p.tl)(hq:p'.d.q=p.d.q)(hn:p'.d.num=p.d.num)(hk:p'.d.kept=p.d.kept):cB (σ.set p.tl (aK p'.d)) (l1++p'::l2) cnt:=by
 have hp:=I.ht p (by simp)
 have cN:=(R.hi p (by simp)).2
 have⟨n1,n2⟩:=iI R.Ni
 have ee:iH p'.d=iH p.d:=by simp[iH,hk,hq,hn]
 have et:z4 p'=z4 p:=by simp[z4,hk,hn,h]
 obtain⟨hB,⟨kT,tab,hT,hT2⟩,⟨kK,dR,hK,Ku⟩,h3,h4,h5,h7,h8,DL,ht⟩:=I
 refine⟨?_,⟨kT,tab,?_,?_⟩,⟨kK,dR,?_,?_⟩,?_,?_,?_,?_,?_,?_,λx hx=>?_⟩
 ·rw[bh _ _ _ _ (Nat.ne_zero_of_lt ‹_›)];exact hB
 ·rw[bh _ _ _ _ (by exact λbT=>bO [_] [.l 1 (.num 15) vA,.e 1 vA (.num 1)] aI cN bT)];exact hT
 ·rw[fS,ee,←fS];exact hT2
 ·rw[bh _ _ _ _ (by exact λbT=>bO [_] [.l 1 (.num 15) vA,.e 1 vA (.num 2)] aI cN bT)];exact hK
 ·rw[nL,et,←nL];exact Ku
 ·rw[bh _ _ _ _ (by exact λbT=>bO [_] [.l 1 (.num 15) vA,.e 1 vA (.num 3)] aI cN bT)];exact h3
 ·rw[bh _ _ _ _ (by exact λbT=>bO [_] [.l 1 (.num 15) vA,.e 1 vA (.num 4)] aI cN bT)];exact h4
 ·rw[bh _ _ _ _ (by exact λbT=>bO [_] [.l 1 (.num 15) vA,.e 1 vA (.num 5)] aI cN bT)];exact h5
 ·rw[bh _ _ _ _ (by exact λbT=>bO [_] [.l 1 (.num 15) vA,.e 1 vA (.num 7)] aI cN bT)];exact h7
 ·rw[bh _ _ _ _ (by exact λbT=>bO [_] [.l 1 (.num 15) vA,.e 1 vA (.num 8)] aI cN bT)];exact h8
 ·rw[bh _ _ _ _ (by exact λbT=>bO [_] [.l 1 (.num 15) vA,.e 1 vA (.num 10)] aI cN bT)];exact DL
 ·clear et ee hk hn hq
  rcases mem_mid.mp hx with hx|rfl|hx
  ·rw[bh _ _ _ _ (n1 x hx).symm];exact ht x (by simp[hx])
  ·rw[h];exact cM _ _ _ (In.of hp)
  ·rw[bh _ _ _ _ (n2 x hx).symm];exact ht x (by simp[hx])
noncomputable def GY:Option (Rw × Int)→V
 |none=> .none
 |some (p,dir)=> .tup [.loc p.tl,.int dir]
theorem iJ{a b:List (V × V)}(h:a.Perm b)(hn:(aZ b).Nodup):(aZ a).Nodup:=(gT h).nodup_iff.mpr hn
theorem wj{ah:List Rw}{cnt:Int}(R:aN ah cnt):(aZ (gc ah)).Nodup:=by
 rw[ur,←lA,List.Nodup,List.pairwise_map]
 exact(lZ R.inc).imp λh e=>by cases e;exact qq [_] [.s 1 vA vA] aI h
theorem qN(n:Nat){σ:aa}{ah:List Rw}{cnt now zone:Int}{t:V}(I:cB σ ah cnt)(hk:kk (.tup [.int zone,t])=3)(h:V.tup [.int zone,t]∉aZ (cT ah)):
  af P0 (n+1) 28 [.loc 0,.int zone,t,.int now] σ=some (.none,σ):=by
 refine fj I.hT λkT tab hT z0 hp=>?_
 refine Gs n I.hB hT (z0.elim .inr λh=> .inl h.1) hk (uo λhm=>h ((gT hp).mem_iff.mp hm))
theorem DM{σ:aa}{i j l t k:Nat}{a b c d o:O}(h:σ[k]? =some o)(e:(Nat.beq i k||Nat.beq j k||Nat.beq l k)=false)(ht:t≠k):((((σ.set i a).set j b).set l c).set t d)[k]? =some o:=by
 rw[Bool.or_eq_false_iff,Bool.or_eq_false_iff] at e
 rw[bh _ _ _ _ ht,bh _ _ _ _ (l5 e.2),bh _ _ _ _ (l5 e.1.2),bh _ _ _ _ (l5 e.1.1)];exact h
theorem Kv{σ:aa}{i j l t k:Nat}{a b c d o:O}(h:σ[k]? =some o)(hk:15≤k)(e:(Nat.ble 15 i||Nat.ble 15 j||Nat.ble 15 l)=false)(ht:t≠k):((((σ.set i a).set j b).set l c).set t d)[k]? =some o:=by
 rw[Bool.or_eq_false_iff,Bool.or_eq_false_iff] at e
 rw[bh _ _ _ _ ht,bh _ _ _ _ (fC hk e.2).symm,bh _ _ _ _ (fC hk e.1.2).symm,bh _ _ _ _ (fC hk e.1.1).symm];exact h
theorem qO{σ:aa}{l1 l2:List Rw}{p:Rw}{cnt dir:Int}{q:Q}{G:Prop}(I:cB σ (l1++p::l2) cnt)(R:aN (l1++p::l2) cnt)(hq:WQ q)(hk:p.d.kept=true)(hw:gq p.d.q q)(hd:qI p.d q dir)
  (k:∀tab dR,σ[1]? =some (.dict 3 tab)→tab.Perm (cT (l1++p::l2))→σ[2]? =some (.dict 1 dR)→dR.Perm (gc (l1++p::l2))→(aZ tab).Nodup→(aZ dR).Nodup→aQ tab q.key=some (.tup [.int p.d.num,.int dir])→aQ dR (.int p.d.num)=some (.loc p.tl)→G):G:=
 fj I.hT λkT tab hT z0 hp=>fj I.hK λkK dR hK hkK uz=>by
  have he':(q.key,V.tup [.int p.d.num,.int dir])∈tab:=hp.mem_iff.mpr (gu.mpr ⟨p,fR,Ce (R.wq p fR) hq hk hw hd⟩)
  have Kw:(V.int p.d.num,V.loc p.tl)∈dR:=uz.mem_iff.mpr (nJ.mpr ⟨p,fR,xT hk▸ .head _⟩)
  obtain rfl:kT=3:=z0.elim id λh=>absurd (h.2▸he') iO
  obtain rfl:kK=1:=hkK.elim id λh=>absurd (h.2▸Kw) iO
  have nd:=iJ hp R.nd
  have Nj:=iJ uz (wj R)
  exact k tab dR hT hp hK uz nd Nj (fW nd he') (fW Nj Kw)
theorem qP(n:Nat){σ:aa}{ah av:List Rw}{cnt now:Int}{q:Q}{r:Option (Rw × Int)}(I:cB σ ah cnt)(R:aN ah cnt)(hq:WQ q)(aV:ah.length≤20)(F:Fd ah q now av r):
  ∃τ,af P0 (n+3) 28 [.loc 0,.int q.zone,q.pk,.int now] σ=some (GY r,τ)∧cB τ av cnt∧Ch (MP ah) σ τ:=by
 refine F.el (P:=λa b r=>cB σ a cnt→aN a cnt→a.length≤20→∃τ,af P0 (n+3) 28 [.loc 0,.int q.zone,q.pk,.int now] σ=some (GY r,τ)∧cB τ b cnt∧Ch (MP a) σ τ)
  (λa hn I R _=>⟨σ,qN (n+2) I (uv q) (GW hq R.wq hn),I,Ch.refl _ _⟩) (λl1 p l2 dir hk hw hd h1 h2 hl I R _=>?_) (λl1 p l2 dir hk hw hd h1 h2 hl I R aV=>?_) I R aV
 ·exact qO I R hq hk hw hd λtab dR hT hp hK uz nd Nj f fK=>⟨σ,ud (n+2) I.hB hT (.inr rfl) (uv q) f hK fK (I.ht p fR) hl,I,Ch.refl _ _⟩
 ·refine qO I R hq hk hw hd λtab dR hT hp hK uz nd Nj f fK=>?_
  have cN:=(R.hi p fR).2
  have e0:(p.d.q.k0,V.tup [.int p.d.num,.int 0])∈tab:=hp.mem_iff.mpr (gu.mpr ⟨p,fR,xS hk▸ .head _⟩)
  have e1:(p.d.q.k1,V.tup [.int p.d.num,.int 1])∈tab:=hp.mem_iff.mpr (gu.mpr ⟨p,fR,xS hk▸ .tail _ (.head _)⟩)
  have Kw:(V.int p.d.num,V.loc p.tl)∈dR:=uz.mem_iff.mpr (nJ.mpr ⟨p,fR,xT hk▸ .head _⟩)
  have P1:=nI nd e0
  have QS:=iJ P1.symm nd
  have yd:(p.d.q.k1,V.tup [.int p.d.num,.int 1])∈fU tab p.d.q.k0:=(eH (P1.mem_iff.mp e1)).resolve_left λh=>uw (R.wq p fR) (aj Prod.fst h).symm
  have QS:=(fG QS).2
  have P2:=nI QS yd
  have PK:=nI Nj Kw
  have L1:=P1.length_eq
  have L2:=hp.length_eq
  have L3:=uq (l1++p::l2)
  have L4:=uz.length_eq
  have L5:=jx (l1++p::l2)
  have ew:aK {p.d with st:=p.d.st ||| 512}=aK (rG p).d:=by rw[show p.d.st ||| 512=p.d.st+512 by rcases R.stK p fR hk with h|h|h<;>rw[h]<;>rfl];rfl
  have hc:=Gu n I.hB hT hK I.h4 (I.ht p fR) cN (GS _) (Cd _) (fW nd e0) (fW QS yd) fK (by exact cP [_,_,_] 1 vA (.num 1000) [.l 2 vB (.num 20),.e 1 vA vC,.l 1 vC (.mulL 2 vB)] aI aV L2 L3) (by exact cP [_,_,_,_] 1 vA (.num 1000) [.l 2 vB (.num 20),.f 1 vC (.add vA (.num 1)),.e 1 vC vD,.l 1 vD (.mulL 2 vB)] aI aV L1 L2 L3) (by exact cP [_,_,_] 1 vA (.num 1000) [.l 1 vB (.num 20),.e 1 vA vC,.l 1 vC vB] aI aV L4 L5) (uv q) f (Int.not_lt.mp hl)
  refine⟨_,hc,?_,((((Ch.refl _ _).set _ (.inr (.inl rfl))).set _ (.inr (.inr (.inl rfl)))).set _ (.inl rfl)).set _ (.inr (.inr (.inr ⟨p,fR,rfl⟩)))⟩
  clear hc L1 L2 L3 L4 L5
  have ht:=I.ht p fR
  unfold dropped
  refine ay ew ?_
  clear ew aV
  have i0:=In.of I.hB
  have i1:=In.of hT
  have i2:=In.of hK
  refine dF (iI R.Ni) λn1 n2=>⟨?_,⟨3,fU (fU tab p.d.q.k0) p.d.q.k1,?_,.inl rfl,?_⟩,⟨1,fU dR (.int p.d.num),?_,.inl rfl,?_⟩,DM I.h3 rfl (fC cN rfl),DM I.h4 rfl (fC cN rfl),DM I.h5 rfl (fC cN rfl),DM I.h7 rfl (fC cN rfl),DM I.h8 rfl (fC cN rfl),DM I.DL rfl (fC cN rfl),λx hx=>?_⟩
  ·exact ay (bh _ _ _ _ (fC cN rfl)) (ay (cM _ _ _ (by simp[i0])) rfl)
  ·exact ay (bh _ _ _ _ (fC cN rfl)) (ay (bh _ _ _ _ (l5 rfl)) (ay (bh _ _ _ _ (l5 rfl)) (ay (cM _ _ _ i1) rfl)))
  ·have t:=P1.symm.trans hp
   rw[fS,xS hk] at t
   rw[fS,uy (d:=(rG p).d) rfl]
   exact((P2.symm.trans (t.trans List.perm_middle).cons_inv).trans List.perm_middle).cons_inv
  ·exact ay (bh _ _ _ _ (fC cN rfl)) (ay (bh _ _ _ _ (l5 rfl)) (ay (cM _ _ _ (by simp[i2])) rfl))
  ·have t:=PK.symm.trans uz
   rw[nL,xT hk] at t
   rw[nL,Cf (p:=rG p) rfl]
   exact(t.trans List.perm_middle).cons_inv
  ·exact qM hx (λhx=>Kv (I.ht x (rF hx)) (R.hi x (rF hx)).2 rfl (n1 x hx).symm) (λe=>ay e (cM _ _ _ (by simp[In.of ht]))) λhx=>Kv (I.ht x (ux hx)) (R.hi x (ux hx)).2 rfl (n2 x hx).symm
noncomputable def uV(d:Dt)(proto now dir:Int):Dt:=ly (qJ d proto now) dir
noncomputable def QT(d:Dt)(dir:Int):Int:=if dir=1∨d.st/2%2=1 then 2 else 8
noncomputable def rR(p:Rw)(proto now dir:Int):Rw:={p with d:=uV p.d proto now dir}
noncomputable def nW(q:Q)(num now:Int):Dt:=⟨q,num,now,m6 q.proto now,0,false⟩
theorem Bo(d:Dt)(proto now dir:Int):(uV d proto now dir).q=d.q∧(uV d proto now dir).num=d.num∧(uV d proto now dir).kept=d.kept:=by
 have h2:(qJ d proto now).q=d.q∧(qJ d proto now).num=d.num∧(qJ d proto now).kept=d.kept:=by unfold qJ;split<;>exact⟨rfl,rfl,rfl⟩
 refine gj ((λd=>by unfold ly;split<;>exact⟨rfl,rfl,rfl⟩:∀d:Dt,(ly d dir).q=d.q∧(ly d dir).num=d.num∧(ly d dir).kept=d.kept) (qJ d proto now)) λa b c=>?_
 exact⟨a.trans h2.1,b.trans h2.2.1,c.trans h2.2.2⟩
theorem Ci(d:Dt)(proto now dir:Int)(h:d.st=8∨d.st=10∨d.st=14):(uV d proto now dir).st=8∨(uV d proto now dir).st=10∨(uV d proto now dir).st=14:=by
 have h1:∀d:Dt,(d.st=8∨d.st=10∨d.st=14)→((ly d dir).st=8∨(ly d dir).st=10∨(ly d dir).st=14):=λd h=>by
  unfold ly;split
  ·rename_i hc;simp only;lia
  ·exact h
 refine h1 _ ?_
 unfold qJ;split
 ·rename_i hc;simp only;split<;>lia
 ·exact h
theorem aN.rR{l1 l2:List Rw}{p:Rw}{cnt proto now dir:Int}(R:aN (l1++p::l2) cnt)(hk:p.d.kept=true):aN (l1++rR p proto now dir::l2) cnt:=by
 obtain⟨e1,e2,e3⟩:=Bo p.d proto now dir
 refine R.upd rfl rfl e1 e2 (λ_=>Ci _ _ _ _ (R.stK p (by simp) hk)) (λh=>?_) ?_
 ·rw[Mine.L.rR,e3,hk] at h;cases h
 ·have:=R.nd
  rw[fS] at this⊢
  have ee:iH (Mine.L.rR p proto now dir).d=iH p.d:=by simp[iH,Mine.L.rR,e1,e2,e3]
  rw[ee];exact this
theorem GZ{l:List Rw}{q:Q}(h:∀p∈l,¬g8 p.d q):∀x∈l.map λp:Rw=>(p.rl,p.d),¬g8 x.2 q:=λx hx=>by
 refine aA (eK hx) λp' hp cW=>?_
 exact uE cW (h p' hp)
theorem G1(n:Nat){σ:aa}{ah av:List Rw}{cnt now dir:Int}{q:Q}{s:Nat}{p:Rw}(I:dj σ ah cnt)(R:aN ah cnt)(hs:σ[s]? =some (bR q))(F:Fd ah q now av (some (p,dir))):
  ∃l1 l2,ah=l1++p::l2∧∃τ,af P0 (n+2) 63 [.loc 12,.loc 13,.loc s,.int now] σ=some (.tup [.loc p.rl,.int (QT p.d dir),.int dir],τ)∧dj τ (l1++rR p q.proto now dir::l2) cnt∧Ch (ML ah) σ τ:=by
 refine nc F λl1 l2 _ hl e hk hw hd h1 h2=>?_
 subst e
 refine⟨l1,l2,rfl,_,GJ (n+1) hs (zH n hs (l1.map λp=>(p.rl,p.d)) (l2.map λp=>(p.rl,p.d)) (p.rl,p.d) ?_ ?_ (GZ h1) (I.hr p (by simp)) hk hw hd hl) (I.hr p (by simp)) (i8 (I.hr p (by simp)) hs (iM _ _)).symm (GV hd),I.upd R (p':=rR p q.proto now dir) rfl,(Ch.refl _ _).set _ (.inr (.inr ⟨p,by simp,rfl⟩))⟩
 ·rw[I.h12];simp[List.map_map,Function.comp_def]
 ·intro x hx
  refine aA (eK hx) λp' hp cW=>?_
  refine uE cW ?_
  exact I.hr p' (by simp[hp])
theorem Jf{ah av:List Rw}(h:av.map (·.rl)=ah.map (·.rl)):∀i,ML av i→ML ah i:=by
 rintro i (h1|h1|⟨p,hp,rfl⟩)
 ·exact .inl h1
 ·exact .inr (.inl h1)
 ·have:p.rl∈ah.map (·.rl):=by rw[←h];exact List.mem_map.mpr ⟨p,hp,rfl⟩
  refine aA (eK this) λp' rL e=>?_
  exact .inr (.inr ⟨p',rL,e.symm⟩)
theorem Jg{ah av:List Rw}(h:av.map (·.tl)=ah.map (·.tl)):∀i,MP av i→MP ah i:=by
 rintro i (h1|h1|h1|⟨p,hp,rfl⟩)
 ·exact .inl h1
 ·exact .inr (.inl h1)
 ·exact .inr (.inr (.inl h1))
 ·have:p.tl∈ah.map (·.tl):=by rw[←h];exact List.mem_map.mpr ⟨p,hp,rfl⟩
  refine aA (eK this) λp' rL e=>?_
  exact .inr (.inr (.inr ⟨p',rL,e.symm⟩))
theorem dj.count{σ:aa}{ah:List Rw}{cnt c:Int}(I:dj σ ah cnt)(R:aN ah cnt):dj (σ.set 13 (.list [.int c])) ah c:=
 ⟨by rw[bh _ _ _ _ (by decide)];exact I.h12,cM _ _ _ (In.of I.qj),λp hp=>by have:=(R.hi p hp).1;rw[bh _ _ _ _ (by exact λbT=>bO [_] [.l 1 (.num 15) vA,.f 1 (.num 13) vA] aI this bT)];exact I.hr p hp⟩
theorem qQ{σ τ:aa}{ah:List Rw}{cnt:Int}{q:Q}{s:Nat}(I:dj σ ah cnt)(cN:15≤s)(hs:σ[s]? =some (bR q))(C:Ch (ML ah) σ τ):τ[s]? =some (bR q):=by
 refine C.get hs ?_
 rintro(h|h|⟨p,hp,rfl⟩)
 ·exact bO [_] [.l 1 (.num 15) vA,.e 1 vA (.num 12)] aI cN h
 ·exact bO [_] [.l 1 (.num 15) vA,.e 1 vA (.num 13)] aI cN h
 ·exact iM _ _ (aX ((I.hr p hp).symm.trans hs))
theorem Jh(n:Nat){σ:aa}{ah av:List Rw}{cnt now:Int}{q:Q}{s:Nat}(I:dj σ ah cnt)(R:aN ah cnt)(cN:15≤s)(hs:σ[s]? =some (bR q))(F:Fd ah q now av none)(ha:q.eE=true):
  ∃τ,af P0 (n+2) 63 [.loc 12,.loc 13,.loc s,.int now] σ=some (.tup [.none,.int 1,.int 0],τ)∧dj τ av (cnt+1)∧Ch (ML ah) σ τ:=by
 refine gC (qa n I R hs F) λτ e I' C=>?_
 have jF:=qQ I cN hs C
 exact⟨_,I6 (n+1) hs e jF I'.qj (by exact λbT=>bO [_] [.l 1 (.num 15) vA,.e 1 vA (.num 13)] aI cN bT) ha,I'.count (F.ok R),C.set _ (.inr (.inl rfl))⟩
theorem Ji(n:Nat){σ:aa}{ah av:List Rw}{cnt now:Int}{q:Q}{s:Nat}(I:dj σ ah cnt)(R:aN ah cnt)(aV:ah.length≤20)(cN:15≤s)(hs:σ[s]? =some (bR q))(F:Fd ah q now av none)(ha:q.eE=false):
  ∃τ rl,af P0 (n+2) 63 [.loc 12,.loc 13,.loc s,.int now] σ=some (.tup [.loc rl,.int 8,.int 0],τ)∧(∀tl,dj τ (av++[⟨rl,tl,nW q (cnt+1) now⟩]) (cnt+1))∧Ch (ML ah) σ τ∧σ.length≤rl∧τ[rl]? =some (cj (nW q (cnt+1) now)):=by
 obtain⟨τ,e,I',C⟩:=qa n I R hs F
 have jF:=qQ I cN hs C
 have R':=F.ok R
 have hl:=F.len
 have i12:=In.of I'.h12
 have My:=In.of I'.qj
 have hnew:((τ.set 13 (.list [.int (cnt+1)])).set 12 (.list ((av.map λp=>V.loc p.rl)++[.loc τ.length]))++[cj (nW q (cnt+1) now)])[τ.length]? =some (cj (nW q (cnt+1) now)):=lu _ _ _ (by simp)
 refine⟨_,τ.length,I7 (n+1) hs e jF I'.qj I'.h12 (by simp;exact ltN [_,_] 1 vA (.num 900) [.l 1 vB (.num 20),.e 1 vA vB] aI aV hl) (by exact λbT=>bO [_] [.l 1 (.num 15) vA,.e 1 vA (.num 13)] aI cN bT) (by exact λbT=>bO [_] [.l 1 (.num 15) vA,.e 1 vA (.num 12)] aI cN bT) ha,λtl=>⟨?_,?_,λp hp=>?_⟩,((C.set _ (.inr (.inl rfl))).set _ (.inl rfl)).app _,C.len,hnew⟩
 ·rw[fz _ _ _ (by simp[i12]),cM _ _ _ (by simp[i12])];simp
 ·clear hl cN aV
  exact ay (fz _ _ _ (by simp[My])) (ay (bh _ _ _ _ (by exact l5 rfl)) (ay (cM _ _ _ My) (rfl)))
 ·clear hl aV
  rcases List.mem_append.mp hp with hp|hp
  ·have h:=I'.hr p hp
   have:=(R'.hi p hp).1
   rw[fz _ _ _ (by simp[In.of h]),bh _ _ _ _ (by exact λbT=>bO [_] [.l 1 (.num 15) vA,.f 1 (.num 12) vA] aI this bT),bh _ _ _ _ (by exact λbT=>bO [_] [.l 1 (.num 15) vA,.f 1 (.num 13) vA] aI this bT)];exact h
  ·rw[List.mem_singleton] at hp
   subst hp
   exact hnew
theorem Vm{f p:Int}(h:(f=2∧p=17)∨(f=10∧p=17)∨(f=2∧p=47)):p=17∨p=47:=h.elim (λh=> .inl h.2) λh=>h.elim (λh=> .inl h.2) λh=> .inr h.2
theorem WQ.l0{q:Q}(h:WQ q):q.proto=17∨q.proto=1∨q.proto=58∨q.proto=47:=
 h.or.elim (λh=>(Vm h.1).elim .inl λh=> .inr (.inr (.inr h))) λh=>h.1.elim (λh=> .inr (.inl h.2.1)) λh=> .inr (.inr (.inl h.2.1))
noncomputable def Nk(d:Dt)(proto now:Int):Dt:=if proto=17 then Pj d now else{d with eF:=m6 proto now}
theorem MC{q:Q}{n s t:Int}{k:Bool}:ly ⟨q,n,s,t,8,k⟩ 1=⟨q,n,s,t,8+2,k⟩:=aC ⟨rfl,(rfl:8/2%2=0)⟩
theorem mk1{q:Q}{n s t:Int}{st:Nat}{k:Bool}:mark ⟨q,n,s,t,st,k⟩ 1=⟨q,n,s,t,st ||| 2,k⟩:=aC rfl
theorem Te(now:Int):now+30000=m6 17 now:=aj (now+ ·) (aB (by decide)).symm
theorem Bp{d:Dt}{dir:Int}(h:¬(dir=1∧d.st/2%2=0)):ly d dir=d:=aB h
theorem Bq{d:Dt}{pr now:Int}(h:¬(pr=17∧d.st/2%2=1∧2000<now-d.since)):qJ d pr now={d with eF:=m6 pr now}:=aB h
theorem G2{q:Q}{n s t now:Int}{st e:Nat}{k:Bool}(h:st/2%2=1)(h':s+2000<now)(he:(if st/4%2=0 then st+4 else st)=e):qJ ⟨q,n,s,t,st,k⟩ 17 now=⟨q,n,s,now+120000,e,k⟩:=(aC ⟨rfl,h,Int.lt_sub_left_of_add_lt h'⟩).trans (aj (λe=>(⟨q,n,s,now+120000,e,k⟩:Dt)) he)
theorem Ky{d:Dt}{now:Int}(h:¬(d.st &&& 2≠0∧d.since+2000<now)):Nk d 17 now={d with eF:=m6 17 now}:=(aC rfl).trans <| (aB h).trans (aj (λt=>{d with eF:=t}) (Te now))
theorem Kz{q:Q}{n s t now:Int}{st:Nat}{k:Bool}(h:st &&& 2≠0)(h':s+2000<now):Nk ⟨q,n,s,t,st,k⟩ 17 now=⟨q,n,s,now+120000,st ||| 4,k⟩:=(aC rfl).trans (aC ⟨h,h'⟩)
theorem Jj(d:Dt)(dir:Int)(h:d.st=8∨d.st=10∨d.st=14):mark d dir=ly d dir:=by
 obtain⟨q,num,since,eF,st,kept⟩:=d
 by_cases hd:dir=1
 ·cases hd
  rcases h with rfl|rfl|rfl
  ·exact mk1.trans MC.symm
  ·exact mk1.trans (Bp λh=>(by decide:¬10/2%2=0) h.2).symm
  ·exact mk1.trans (Bp λh=>(by decide:¬14/2%2=0) h.2).symm
 ·exact(aB hd).trans (Bp λh=>hd h.1).symm
theorem MD(d:Dt)(proto now:Int)(h:d.st=8∨d.st=10∨d.st=14):∃e:Dt,Nk d proto now=e∧qJ d proto now=e∧(e.st=8∨e.st=10∨e.st=14):=by
 obtain⟨q,num,since,eF,st,kept⟩:=d
 by_cases rQ:proto=17
 ·cases rQ
  by_cases ht:since+2000<now
  ·rcases h with rfl|rfl|rfl
   ·exact⟨_,Ky λh=>h.1 (rfl:8 &&& 2=0),Bq λh=>(by decide:¬8/2%2=1) h.2.1,.inl rfl⟩
   ·exact⟨_,Kz (by decide) ht,G2 rfl ht rfl,.inr (.inr rfl)⟩
   ·exact⟨_,Kz (by decide) ht,G2 rfl ht rfl,.inr (.inr rfl)⟩
  ·exact⟨_,Ky λh=>ht h.2,Bq λh=>ht (Int.add_lt_of_lt_sub_left h.2.2),h⟩
 ·exact⟨_,aB rQ,Bq λh=>rQ h.1,h⟩
theorem G3(d:Dt)(proto now dir:Int)(h:d.st=8∨d.st=10∨d.st=14):mark (Nk d proto now) dir=uV d proto now dir:=
 (MD d proto now h).elim λe h=>(aj (mark · dir) h.1).trans ((Jj e dir h.2.2).trans (aj (ly · dir) h.2.1.symm))
theorem Jk(q:Q)(num now:Int):Nk ⟨q,num,now,0,0,false⟩ q.proto now=nW q num now:=by
 by_cases rQ:q.proto=17
 ·exact(aC rQ).trans ((aB λh=>h.1 (rfl:0 &&& 2=0)).trans (aj (λt=>(⟨q,num,now,now+t,0,false⟩:Dt)) (aB λh=>(by decide:(17:Int)≠47) (rQ.symm.trans h)).symm))
 ·exact aB rQ
noncomputable def Vn(proto:Int):Nat:=if proto=17 then 30 else if proto=47 then 33 else 32
noncomputable def PC(proto:Int):Nat:=if proto=17∨proto=47 then 29 else 31
noncomputable def zL(proto:Int):List (V × V):=if proto=1 then [(.str 81,.fn 36)] else if proto=58 then [(.str 81,.fn 37)] else []
theorem cB.tr{σ:aa}{ah:List Rw}{cnt:Int}(I:cB σ ah cnt){proto:Int}(hp:proto=17∨proto=1∨proto=58∨proto=47):σ[IY proto]? =some (.dict 2 ((.str 75,.fn (PC proto))::(.str 77,.fn (Vn proto))::zL proto)):=by
 rcases hp with rfl|rfl|rfl|rfl
 ·exact I.h5
 ·exact I.h7
 ·exact I.h8
 ·exact I.DL
theorem G4(n tl:Nat){d:Dt}{b p r:V}{proto now:Int}{σ:aa}(hp:proto=17∨proto=1∨proto=58∨proto=47)(hd:σ[tl]? =some (aK d)):af P0 (n+1) (Vn proto) [b,.loc tl,p,r,.int now] σ=some (.str 61,σ.set tl (aK (Nk d proto now))):=by
 rcases hp with rfl|rfl|rfl|rfl
 ·exact Yu n tl hd
 ·exact Ve n tl hd
 ·exact Ve n tl hd
 ·exact Yt n tl hd
noncomputable def isA(f w:Int):Bool:=if f=2 then decide (w∈[8,13,15,17]) else decide (w=128)
noncomputable def Vo(f p w:Int):Prop:=qF f p=true∧PC p=31∧0≤w∧0≤bV f w∧bV f (bV f w)=w∧isA f w=true∧isA f (bV f w)=false
theorem YF{f p w:Int}(h:(f=2∧p=1∧(w=8∨w=13∨w=15∨w=17))∨(f=10∧p=58∧w=128)):Vo f p w:=by
 rcases h with⟨rfl,rfl,rfl|rfl|rfl|rfl⟩|⟨rfl,rfl,rfl⟩<;>exact⟨rfl,rfl,by decide,by decide,rfl,rfl,rfl⟩
theorem dv{x k c:Int}(e:x=256*k+c)(hc:c=0∨c=1):x/256=k:=by subst e;rcases hc with rfl|rfl<;>omega
theorem nn{x k c:Int}(e:x=256*k+c)(hc:c=0∨c=1)(hk:0≤k):0≤x:=by subst e;exact Int.add_nonneg (Int.mul_nonneg (by decide) hk) (hc.elim (λh=>h▸Int.le_refl 0) λh=>h▸Int.zero_le_ofNat 1)
theorem WQ.QU{q:Q}(hq:WQ q){P:Prop}(h1:q.x=q.p2→q.y=q.p1→qF q.ai q.proto=false→PC q.proto=29→q.eE=false→P)
  (h2:Vo q.ai q.proto q.w3→(q.w4=0∨q.w4=1)→q.p1=q.p2→q.x=256*q.w3+q.w4→q.y=256*bV q.ai q.w3+q.w4→P):P:=
 hq.or.elim (λ⟨h,_,_,hx,hy,ha⟩=>h1 hx hy (by unfold qF;rcases h with⟨h,h'⟩|⟨h,h'⟩|⟨h,h'⟩<;>rw[h,h']<;>rfl) (aC (Vm h)) ha) λ⟨h,h4,hp,hx,hy⟩=>h2 (YF h) h4 hp hx hy
theorem MF(n tl:Nat){d:Dt}{q:Q}{b p:V}{now:Int}{σ:aa}(hq:WQ q)(ha:q.eE=false)(QV:d.q=q)(hd:σ[tl]? =some (aK d)):af P0 (n+1) (PC q.proto) [b,.loc tl,p,.int now] σ=some (.bool true,σ.set tl (aK {d with since:=now})):=by
 subst QV
 exact hq.QU (λ_ _ _ e _=>ay e (Ys n tl hd)) λF h4 _ hx _=>ay F.2.1 ((Vd n tl hd (nn hx h4 F.2.2.1)).trans (aj (λb=>some (V.bool b,_)) ((aj (isA d.q.ai) (dv hx h4)).trans F.2.2.2.2.2.1)))
noncomputable def Q.turn(q:Q):Q:={q with x:=q.y,p2:=q.p1,y:=q.x,eE:=false}
theorem Jl{q:Q}(ha:q.eE=true):q.turn.t=q.pk:=by simp[Q.turn,Q.t,Q.pk,ha]
theorem MG(n tl:Nat){d:Dt}{q:Q}{b p:V}{now:Int}{σ:aa}(hq:WQ q)(ha:q.eE=true)(QV:d.q=q.turn)(hd:σ[tl]? =some (aK d)):af P0 (n+1) (PC q.proto) [b,.loc tl,p,.int now] σ=some (.bool false,σ.set tl (aK {d with since:=now})):=
 hq.QU (λ_ _ _ _ h=>nomatch ha.symm.trans h) λF h4 _ _ hy=>by
  have ex:d.q.x=256*bV q.ai q.w3+q.w4:=(aj Q.x QV).trans hy
  exact ay F.2.1 ((Vd n tl hd (nn ex h4 F.2.2.2.1)).trans (aj (λb=>some (V.bool b,_)) ((congr (aj isA (aj Q.ai QV)) (dv ex h4)).trans F.2.2.2.2.2.2)))
theorem MH{x k c:Int}(e:x=256*k+c)(hk:0≤k)(hc:c=0∨c=1):((x.toNat &&& 255:Nat):Int)=c:=by
 subst e
 obtain⟨k,rfl⟩:=Int.eq_ofNat_of_zero_le hk
 rcases hc with rfl|rfl
 ·exact aj (λn:Nat=>(n:Int)) ((Nat.and_two_pow_sub_one_eq_mod (256*k+0) 8).trans (Nat.mul_add_mod 256 k 0))
 ·exact aj (λn:Nat=>(n:Int)) ((Nat.and_two_pow_sub_one_eq_mod (256*k+1) 8).trans (Nat.mul_add_mod 256 k 1))
theorem G5(n:Nat){f p a1 p1 a2 x k c:Int}(hi:qF f p=true)(e:x=256*k+c)(hc:c=0∨c=1)(h0:0≤k)(hk:0≤bV f k)(σ:aa):af P0 (n+2) 25 [.tup [.int f,.int p,.int a1,.int p1,.int a2,.int x]] σ=some (.tup [.int f,.int p,.int a2,.int p1,.int a1,.int (256*bV f k+c)],σ):=
 (zE n hi (nn e hc h0) σ).trans (ay (dv e hc) ((aj (λv=>some (v,σ)) (aB (kD hk))).trans (ay (MH e h0 hc) (ay (Int.mul_comm (bV f k) 256) rfl))))
theorem Jm(n:Nat){q:Q}(hq:WQ q)(σ:aa):af P0 (n+2) 25 [q.t] σ=some (q.b,σ):=
 hq.QU (λhx hy hi _ _=>(DJ n hi σ).trans (aj (λt=>some (V.tup t,σ)) (ay hx (ay hy rfl)))) λF h4 hp hx hy=>(G5 n F.1 hx h4 F.2.2.1 F.2.2.2.1 σ).trans (by rw[←hy,hp];rfl)
theorem Jo(n:Nat){q:Q}(hq:WQ q)(ha:q.eE=true)(σ:aa):af P0 (n+2) 25 [q.turn.t] σ=some (q.turn.b,σ):=
 hq.QU (λ_ _ _ _ h=>nomatch ha.symm.trans h) λF h4 hp hx hy=>(G5 n F.1 hy h4 F.2.2.2.1 (ay F.2.2.2.2.1 F.2.2.1) σ).trans (by rw[F.2.2.2.2.1,←hx];rfl)
noncomputable def DN(σ:aa)(pl:Nat)(q:Q):Prop:=∃l off place mt kind,σ[pl]? =some (cO l q.ai q.proto off place mt)∧0≤off∧off<1000∧l.length≤1000∧
 (∀σ,af P0 4 22 [.aM l,.int q.ai,.int q.proto,.int off] σ=some (q.pk,σ))∧((q.proto=1∨q.proto=58)→off+8≤l.length∧l[off.toNat]? =some kind∧uf q.ai kind=false∧kind∉[130,131,132,133,134,135,136,143])
theorem WQ.MI{q:Q}(h:WQ q):q.ai=2∨q.ai=10:=by rcases h.or with h|h<;>lia
theorem uA(S pl:Nat){σ τ:aa}{ah:List Rw}{cnt:Int}{q:Q}{now dc gy zone r:V}{g:List (Nat × V)}(I:cB σ ah cnt)(hq:WQ q)(h:σ[S]? =some (aq (.loc pl) now dc (.int 1) gy (.loc 0) g))(hp:DN σ pl q)
  (zZ:af P0 5 50 [.loc S,.loc (IY q.proto),zone,q.pk] σ=some (r,τ)):af P0 6 51 [.loc S,zone] σ=some (r,τ):=by
 refine Rr hp λl off place mt kind hpk o1 o2 o3 h22 hi=>?_
 have h23:af P0 5 23 [.loc pl] σ=some (q.pk,σ):=SN 3 pl hpk hq.MI (kD ‹_›) h22
 have zY:=SM 4 I.hB I.h3 hq.l0
 have ht:=I.tr hq.l0
 unfold Q.pk at h23 zZ
 rcases hq.l0 with hp|hp|hp|hp
 ·have hr:zL q.proto=[]:=by rw[hp];rfl
  replace ht:=(hr)▸ht
  exact v7 5 pl S h h23 zY ht zZ
 ·have hr:zL q.proto=[(.str 81,.fn 36)]:=by rw[hp];rfl
  rw[hr] at ht
  obtain⟨i1,i2,i3,i4⟩:=hi (.inl hp)
  have hic:qF q.ai q.proto=true:=by
   rcases hq.or with h|h
   ·lia
   ·have:q.ai=2:=by lia
    rw[hp,this];rfl
  have DO:=Pk 1 pl hpk hq.MI hic o1 (by omega) o3 i2
  replace DO:=(i3)▸DO
  exact ug 5 pl S h h23 zY ht (Bf 4 pl S h DO) zZ
 ·have hr:zL q.proto=[(.str 81,.fn 37)]:=by rw[hp];rfl
  rw[hr] at ht
  refine sJ (hi (.inr hp)) λi1 i2 i3 i4=>?_
  have hf:q.ai=10:=by
   rcases hq.or with h|h<;>lia
  have hic:qF q.ai q.proto=true:=by
   unfold qF;rw[hp,hf];rfl
  have DO:=Pk 0 pl hpk hq.MI hic o1 (by omega) o3 i2
  replace DO:=(i3)▸DO
  rw[hf] at hpk
  exact ug 5 pl S h h23 zY ht (GA 3 pl S h hpk o1 i1 o3 i2 i4 (Bf 3 pl S h DO)) zZ
 ·have hr:zL q.proto=[]:=by rw[hp];rfl
  rw[hr] at ht
  exact v7 5 pl S h h23 zY ht zZ
theorem cJ{a b c d e f:V}{g:List (Nat × V)}{x:Dt}:aq a b c d e f g≠aK x:=by intro e;simp[aq,aK] at e
noncomputable def KA(S:Nat)(ah:List Rw)(i:Nat):Prop:=i=S∨MP ah i
theorem cB.zM{σ:aa}{ah:List Rw}{cnt:Int}(I:cB σ ah cnt){S:Nat}(cN:15≤S){o:O}(hS:∀p∈ah,p.tl≠S):cB (σ.set S o) ah cnt:=
 I.frame (M:=λi=>i=S) ((Ch.refl _ _).set o rfl) (λi hi e=>by exact bO [_,_] [.l 1 (.num 15) vA,.l 1 vB (.num 10),.f 1 vB vA] aI cN hi e) (λp hp e=>hS p hp e)
theorem Br(p:Int):5≤IY p∧IY p≤10:=by unfold IY;split<;>(try split)<;>(try split)<;>lia
theorem Bs(S pl:Nat){σ:aa}{ah av:List Rw}{cnt now dir:Int}{q:Q}{p:Rw}{dc gy:V}{g:List (Nat × V)}(hg:g.length≤800)(I:cB σ ah cnt)(R:aN ah cnt)(hq:WQ q)(F:Fd ah q now av (some (p,dir)))(cN:15≤S)
  (h:σ[S]? =some (aq (.loc pl) (.int now) dc (.int 1) gy (.loc 0) g))(hp:DN σ pl q):
  ∃l1 l2,ah=l1++p::l2∧∃τ,af P0 6 51 [.loc S,.int q.zone] σ=some (.none,τ)∧cB τ (l1++rR p q.proto now dir::l2) cnt∧Ch (KA S ah) σ τ∧τ[S]? =some (aq (.loc pl) (.int now) (.loc p.tl) (.int (QT p.d dir)) (.int dir) (.loc 0) g):=by
 refine dY λG hG=>?_
 obtain⟨e1,hl,l1,l2,e,hk,hw,hd⟩:=F.some
 clear e1 F
 subst e
 refine hG ?_
 have hm:p∈l1++p::l2:=by simp
 refine⟨l1,l2,rfl,?_⟩
 have ht:=I.ht p hm
 have PD:af P0 3 28 [.loc 0,.int q.zone,q.pk,.int now] σ=some (.tup [.loc p.tl,.int dir],σ):=by
  refine dY λG hG=>?_
  refine fj I.hT λkT tab hT z0 HD=>?_
  refine fj I.hK λkK dR hK hkK uz=>?_
  have he':(q.key,V.tup [.int p.d.num,.int dir])∈tab:=HD.mem_iff.mpr (gu.mpr ⟨p,hm,(Ce (R.wq p hm) hq hk hw hd)⟩)
  have Kw:(V.int p.d.num,V.loc p.tl)∈dR:=uz.mem_iff.mpr (nJ.mpr ⟨p,hm,by rw[xT hk];simp⟩)
  have k1:kK=1:=hkK.elim id λh=>by rw[h.2] at Kw;cases Kw
  clear hkK
  subst k1
  refine hG ?_
  exact ud 2 I.hB hT (z0.elim .inr λh=> .inl h.1) (uv q) (fW (iJ HD R.nd) he') hK (fW (iJ uz (wj R)) Kw) ht hl
 have hst:=R.stK p hm hk
 have zI:=Gv 2 S hg h PD ht (GV hd) (by rcases hst with h|h|h<;>rw[h]<;>rfl)
 have es:(if dir=1∨p.d.st &&& 2≠0 then(2:Int) else 8)=QT p.d dir:=by
  unfold QT
  rcases hst with h|h|h<;>rw[h]<;>by_cases hd1:dir=1<;>first|rfl|simp
 replace zI:=(es)▸zI
 have Mt:S≠p.tl:=i8 h ht cJ
 have hb:=Br q.proto
 have zZ:=Gy 4 S (by exact λbT=>bO [_,_] [.l 1 (.num 15) vA,.l 1 vB (.num 10),.e 1 vA vB] aI cN hb.2 bT) (GV hd) h zI (I.tr hq.l0) ht Mt (λτ Tf=>G4 3 p.tl (b:= .loc 0) (p:= .loc pl) (r:= .int dir) (now:=now) hq.l0 Tf)
 rw[G3 _ _ _ _ hst] at zZ
 refine gj (Bo p.d q.proto now dir) λu1 u2 u3=>?_
 refine⟨_,uA S pl I hq h hp zZ,?_,?_,?_⟩
 ·exact(I.zM cN (λp' rL=>(i8 h (I.ht p' rL) cJ).symm)).upd R (p':=rR p q.proto now dir) rfl u1 u2 u3
 ·exact((Ch.refl _ _).set _ (.inl rfl)).set _ (.inr (.inr (.inr (.inr ⟨p,hm,rfl⟩))))
 ·exact ay (bh _ _ _ _ Mt.symm) (ay (cM _ _ _ (In.of h)) (rfl))
theorem WQ.turn{q:Q}:q.turn.ai=q.ai∧q.turn.proto=q.proto∧q.turn.zone=q.zone:=⟨rfl,rfl,rfl⟩
theorem cB.count{σ:aa}{ah:List Rw}{cnt c:Int}(I:cB σ ah cnt)(R:aN ah cnt):cB (σ.set 0 (di c)) ah c:=by
 refine dY λG hG=>?_
 obtain⟨hB,⟨kT,tab,hT,hT2⟩,⟨kK,dR,hK,Ku⟩,h3,h4,h5,h7,h8,DL,ht⟩:=I
 refine hG ?_
 have s:∀{i:Nat}{o:O},i≠0→σ[i]? =some o→(σ.set 0 (di c))[i]? =some o:=λhi h=>by rw[bh _ _ _ _ (Ne.symm hi)];exact h
 exact⟨cM _ _ _ (In.of hB),⟨kT,tab,s (by decide) hT,hT2⟩,⟨kK,dR,s (by decide) hK,Ku⟩,s (by decide) h3,s (by decide) h4,s (by decide) h5,s (by decide) h7,s (by decide) h8,s (by decide) DL,λp hp=>s ((λp hp=>by have:=(R.hi p hp).2;exact λbT=>bO [_] [.l 1 (.num 15) vA,.e 1 vA (.num 0)] aI this bT:∀p∈ah,p.tl≠0) p hp) (ht p hp)⟩
theorem cB.app{σ:aa}{ah:List Rw}{cnt:Int}(I:cB σ ah cnt)(c:aa):cB (σ++c) ah cnt:=
 I.frame (M:=λ_=>False) ((Ch.refl _ _).app c) (λ_ _=>id) λ_ _=>id
theorem oX{σ τ:aa}{ah:List Rw}{cnt:Int}{S:Nat}{a b c d e f:V}{g:List (Nat × V)}(I:cB σ ah cnt)(cN:15≤S)(h:σ[S]? =some (aq a b c d e f g))(C:Ch (MP ah) σ τ):τ[S]? =some (aq a b c d e f g):=by
 refine C.get h ?_
 rintro(h|h|h|⟨p,hp,rfl⟩)
 ·exact bO [_] [.l 1 (.num 15) vA,.e 1 vA (.num 0)] aI cN h
 ·exact bO [_] [.l 1 (.num 15) vA,.e 1 vA (.num 1)] aI cN h
 ·exact bO [_] [.l 1 (.num 15) vA,.e 1 vA (.num 2)] aI cN h
 ·exact cJ (aX (h.symm.trans (I.ht p hp)))
theorem DP(S pl:Nat){σ:aa}{ah av:List Rw}{cnt now:Int}{q:Q}{dc gy:V}{g:List (Nat × V)}(hg:g.length≤800)(I:cB σ ah cnt)(R:aN ah cnt)(aV:ah.length≤20)(hq:WQ q)(F:Fd ah q now av none)(cN:15≤S)
  (h:σ[S]? =some (aq (.loc pl) (.int now) dc (.int 1) gy (.loc 0) g))(hp:DN σ pl q)(ha:q.eE=true):
  ∃τ,af P0 6 51 [.loc S,.int q.zone] σ=some (.none,τ)∧cB τ av (cnt+1)∧Ch (KA S ah) σ τ∧τ[S]? =some (aq (.loc pl) (.int now) .none (.int 1) (.int 0) (.loc 0) g):=by
 refine gC (qP 0 I R hq aV F) λτ PD I' C=>?_
 have h':=oX I cN h C
 refine fj I'.hK λkK dR hK hkK uz=>?_
 have hl:=jx av
 have mh:=uz.length_eq
 have hl3:=F.len
 have hb:=Br q.proto
 have KC:=Vg 1 S hg (q:=q.turn) (ok:=false) (Nat.ne_zero_of_lt ‹_›) (by exact λbT=>bO [_] [.l 1 (.num 15) vA,.e 1 vA (.num 2)] aI cN bT) (by exact λbT=>bO [_,_] [.l 1 (.num 15) vA,.l 1 vB (.num 10),.e 1 vA vB] aI cN hb.2 bT) (by exact λbT=>bO [_] [.l 1 (.num 5) vA,.e 1 vA (.num 0)] aI hb.1 bT) h' (Jo 1 hq ha) I'.hB hK (by lia) (by exact ltN [_,_,_,_] 1 vA (.num 64) [.l 1 vB (.num 20),.l 1 vC vD,.e 1 vA vC,.e 1 vD vB] aI aV hl mh hl3) (I'.tr hq.l0) (λτ d tl hd ht=>MG 2 tl hq ha hd ht)
 rw[Jl ha] at KC
 have yc:((τ.set 0 (di (cnt+1))).set S (aq (.loc pl) (.int now) .none (.int 1) (.int 0) (.loc 0) g)++[aK ⟨q.turn,cnt+1,now,0,0,false⟩])[S]? =some (aq (.loc pl) (.int now) .none (.int 1) (.int 0) (.loc 0) g):=by
  exact ay (fz _ _ _ (by simp[In.of h'])) (ay (cM _ _ _ (by simp[In.of h'])) (rfl))
 refine⟨_,uA S pl I hq h hp (zF 4 S h (ue 3 S h PD) KC yc),?_,?_,yc⟩
 ·exact((I'.count (F.ok R)).zM cN (λp' rL=>(i8 h' (I'.ht p' rL) cJ).symm)).app _
 ·exact(((C.mono λi=> .inr).set _ (.inr (.inl rfl))).set _ (.inl rfl)).app _
theorem DQ(S pl:Nat){σ:aa}{ah av:List Rw}{cnt now:Int}{q:Q}{dc gy:V}{g:List (Nat × V)}(hg:g.length≤800)(I:cB σ ah cnt)(R:aN ah cnt)(aV:ah.length≤20)(hq:WQ q)(F:Fd ah q now av none)(cN:15≤S)
  (h:σ[S]? =some (aq (.loc pl) (.int now) dc (.int 1) gy (.loc 0) g))(hp:DN σ pl q)(ha:q.eE=false):
  ∃τ tl,af P0 6 51 [.loc S,.int q.zone] σ=some (.none,τ)∧(∀rl,cB τ (av++[⟨rl,tl,nW q (cnt+1) now⟩]) (cnt+1))∧Ch (KA S ah) σ τ∧τ[S]? =some (aq (.loc pl) (.int now) (.loc tl) (.int 8) (.int 0) (.loc 0) g)∧σ.length≤tl:=by
 refine gC (qP 0 I R hq aV F) λτ PD I' C=>?_
 have h':=oX I cN h C
 refine fj I'.hK λkK dR hK hkK uz=>?_
 have hl:=jx av
 have mh:=uz.length_eq
 have hl3:=F.len
 have hb:=Br q.proto
 have hS:∀p'∈av,p'.tl≠S:=λp' rL=>(i8 h' (I'.ht p' rL) cJ).symm
 have KC:=Vg 1 S hg (q:=q) (ok:=true) (Nat.ne_zero_of_lt ‹_›) (by exact λbT=>bO [_] [.l 1 (.num 15) vA,.e 1 vA (.num 2)] aI cN bT) (by exact λbT=>bO [_,_] [.l 1 (.num 15) vA,.l 1 vB (.num 10),.e 1 vA vB] aI cN hb.2 bT) (by exact λbT=>bO [_] [.l 1 (.num 5) vA,.e 1 vA (.num 0)] aI hb.1 bT) h' (Jm 1 hq) I'.hB hK (by lia) (by exact ltN [_,_,_,_] 1 vA (.num 64) [.l 1 vB (.num 20),.l 1 vC vD,.e 1 vA vC,.e 1 vD vB] aI aV hl mh hl3) (I'.tr hq.l0) (λτ d tl hd ht=>MF 2 tl hq ha hd ht)
 rw[←(by simp[Q.pk,Q.t,ha]:q.pk=q.t)] at KC
 simp only[if_true] at KC
 have iS:=In.of h'
 have yc:((τ.set 0 (di (cnt+1))).set S (aq (.loc pl) (.int now) (.loc τ.length) (.int 8) (.int 0) (.loc 0) g)++[aK ⟨q,cnt+1,now,0,0,false⟩])[S]? =some (aq (.loc pl) (.int now) (.loc τ.length) (.int 8) (.int 0) (.loc 0) g):=by
  exact ay (fz _ _ _ (by simp[iS])) (ay (cM _ _ _ (by simp[iS])) (rfl))
 have hT2:((τ.set 0 (di (cnt+1))).set S (aq (.loc pl) (.int now) (.loc τ.length) (.int 8) (.int 0) (.loc 0) g)++[aK ⟨q,cnt+1,now,0,0,false⟩])[τ.length]? =some (aK ⟨q,cnt+1,now,0,0,false⟩):=lu _ _ _ (by simp)
 have zZ:=IX 4 S (i8 yc hT2 cJ) h (ue 3 S h PD) KC yc ((((I'.count (c:=cnt+1) (F.ok R)).zM cN (o:=(aq (.loc pl) (.int now) (.loc τ.length) (.int 8) (.int 0) (.loc 0) g)) hS).app [aK ⟨q,cnt+1,now,0,0,false⟩]).tr hq.l0) hT2 (λτ Tf=>G4 3 _ (b:= .loc 0) (p:= .loc pl) (r:= .int 0) (now:=now) hq.l0 Tf)
 rw[Jk] at zZ
 rw[(fh _ _ _ _ (by simp))] at zZ
 refine⟨_,τ.length,uA S pl I hq h hp zZ,λrl=>?_,?_,?_,C.len⟩
 ·obtain⟨hB,⟨kT,tab,hT,hT2⟩,⟨kK,dR,hK,Ku⟩,h3,h4,h5,h7,h8,DL,ht⟩:=(((I'.count (c:=cnt+1) (F.ok R)).zM cN (o:=(aq (.loc pl) (.int now) (.loc τ.length) (.int 8) (.int 0) (.loc 0) g)) hS).app [aK (nW q (cnt+1) now)])
  refine⟨hB,⟨kT,tab,hT,hT2.1,?_⟩,⟨kK,dR,hK,Ku.1,?_⟩,h3,h4,h5,h7,h8,DL,λp hp=>?_⟩
  ·rw[pZ];simpa[cT,iH,nW] using hT2.2
  ·rw[qK];simpa[gc,z4,nW] using Ku.2
  ·rcases List.mem_append.mp hp with hp|hp
   ·exact ht p hp
   ·rw[List.mem_singleton] at hp
    refine ay hp ?_
    exact lu _ _ _ (by simp)
 ·exact(((C.mono λi=> .inr).set _ (.inr (.inl rfl))).set _ (.inl rfl)).app _
 ·exact ay (fz _ _ _ (by simp[iS])) (ay (cM _ _ _ (by simp[iS])) (rfl))
theorem DR(n:Nat){σ:aa}{ah av:List Rw}{cnt now dir:Int}{q:Q}{p:Rw}(I:cB σ ah cnt)(R:aN ah cnt)(hq:WQ q)(F:Fd ah q now av (some (p,dir))):
  af P0 (n+1) 28 [.loc 0,.int q.zone,q.pk,.int now] σ=some (.tup [.loc p.tl,.int dir],σ):=by
 refine nc F λl1 l2 _ hl e hk hw hd _ _=>?_
 subst e
 exact qO I R hq hk hw hd λtab dR hT hp hK uz nd Nj f fK=>ud n I.hB hT (.inr rfl) (uv q) f hK fK (I.ht p fR) hl
noncomputable def G6(d:Dt):Dt:={d with kept:=true,st:=d.st+8}
noncomputable def lB(p:Rw):Rw:={p with d:=G6 p.d}
theorem DS{m1 m2:List Rw}{p:Rw}{cnt:Int}(R:aN (m1++p::m2) cnt)(hk:p.d.kept=false):V.int p.d.num∉aZ (gc (m1++p::m2)):=λh=>by
 have hi:=R.inc
 rw[List.map_append,fm,List.pairwise_append,List.pairwise_cons] at hi
 refine gj hi λh1 h2 h4=>aA (eK h) λe he hee=>aA (nJ.mp he) λx hx he=>dF (Cc.mp he) λkx ex=>?_
 have hnum:x.d.num=p.d.num:=V.int.inj ((aj Prod.fst ex).symm.trans hee)
 exact qM hx (λhx=>Int.lt_irrefl _ (hnum▸h4 x.d.num (List.mem_map.mpr ⟨x,hx,rfl⟩) p.d.num (.head _))) (λe=>Bool.false_ne_true (hk.symm.trans (e▸kx))) λhx=>Int.lt_irrefl _ (hnum▸h2.1 x.d.num (List.mem_map.mpr ⟨x,hx,rfl⟩))
theorem aN.keep{m1 m2:List Rw}{p:Rw}{cnt:Int}(R:aN (m1++p::m2) cnt)(hk:p.d.kept=false)(h0:p.d.st=0)(n0:p.d.q.k0∉aZ (cT (m1++p::m2)))(n1:p.d.q.k1∉aZ (cT (m1++p::m2))):aN (m1++lB p::m2) cnt:=by
 refine R.upd rfl rfl rfl rfl (λ_=> .inl (by simp[lB,G6,h0])) (λh=>by cases h) ?_
 have nd:=R.nd
 rw[fS,uy hk,List.nil_append] at nd n0 n1
 have hp:(cT (m1++lB p::m2)).Perm ((p.d.q.k0,.tup [.int p.d.num,.int 0])::(p.d.q.k1,.tup [.int p.d.num,.int 1])::(cT m1++cT m2)):=by
  rw[fS,(rfl:iH (lB p).d=[(p.d.q.k0,.tup [.int p.d.num,.int 0]),(p.d.q.k1,.tup [.int p.d.num,.int 1])])]
  exact List.perm_middle.trans (List.Perm.cons _ List.perm_middle)
 refine iJ hp ?_
 simp only[fQ,List.nodup_cons,List.mem_cons,not_or]
 exact⟨⟨(uw (R.wq p (by simp))),n0⟩,n1,nd⟩
theorem Bt{σ:aa}{i j t k:Nat}{a b d o:O}(h:σ[k]? =some o)(e:(Nat.beq i k||Nat.beq j k)=false)(ht:t≠k):(((σ.set i a).set j b).set t d)[k]? =some o:=by
 rw[Bool.or_eq_false_iff] at e
 rw[bh _ _ _ _ ht,bh _ _ _ _ (l5 e.2),bh _ _ _ _ (l5 e.1)];exact h
theorem KD{σ:aa}{i j t k:Nat}{a b d o:O}(h:σ[k]? =some o)(hk:15≤k)(e:(Nat.ble 15 i||Nat.ble 15 j)=false)(ht:t≠k):(((σ.set i a).set j b).set t d)[k]? =some o:=by
 rw[Bool.or_eq_false_iff] at e
 rw[bh _ _ _ _ ht,bh _ _ _ _ (fC hk e.2).symm,bh _ _ _ _ (fC hk e.1).symm];exact h
theorem cB.keep{σ:aa}{m1 m2:List Rw}{p:Rw}{cnt:Int}{kT kK:Nat}{tab dR:List (V × V)}(I:cB σ (m1++p::m2) cnt)(R:aN (m1++p::m2) cnt)(hk:p.d.kept=false)(h0:p.d.st=0)(n0:p.d.q.k0∉aZ (cT (m1++p::m2)))(n1:p.d.q.k1∉aZ (cT (m1++p::m2)))
  (hT:σ[1]? =some (.dict kT tab))(HD:tab.Perm (cT (m1++p::m2)))(hK:σ[2]? =some (.dict kK dR))(uz:dR.Perm (gc (m1++p::m2))):
  cB (((σ.set 1 (.dict 3 (cA (cA tab p.d.q.k0 (.tup [.int p.d.num,.int 0])) p.d.q.k1 (.tup [.int p.d.num,.int 1])))).set 2 (.dict 1 (cA dR (.int p.d.num) (.loc p.tl)))).set p.tl (aK {p.d with st:=p.d.st ||| 8})) (m1++lB p::m2) cnt:=by
 have h01:=uw (R.wq p fR)
 have hp:=I.ht p fR
 have cN:=(R.hi p fR).2
 have ew:aK {p.d with st:=p.d.st ||| 8}=aK (lB p).d:=by simp only[lB,G6,h0];rfl
 refine ay ew (?_)
 clear ew
 have f0:p.d.q.k0∉aZ tab:=λh=>n0 ((gT HD).mem_iff.mp h)
 have f1:p.d.q.k1∉aZ (tab++[(p.d.q.k0,.tup [.int p.d.num,.int 0])]):=by
  rw[gJ,List.mem_append,not_or]
  exact⟨λh=>n1 ((gT HD).mem_iff.mp h),λh=>h01 (List.mem_singleton.mp h).symm⟩
 have f2:V.int p.d.num∉aZ dR:=λh=>DS R hk ((gT uz).mem_iff.mp h)
 refine ay (lz f0) (ay (lz f1) (ay (lz f2) (?_)))
 have i1:=In.of hT
 have i2:=In.of hK
 refine dF (iI R.Ni) λu1 u2=>⟨Bt I.hB rfl (fC cN rfl),⟨3,tab++[(p.d.q.k0,.tup [.int p.d.num,.int 0])]++[(p.d.q.k1,.tup [.int p.d.num,.int 1])],?_,.inl rfl,?_⟩,⟨1,dR++[(.int p.d.num,.loc p.tl)],?_,.inl rfl,?_⟩,Bt I.h3 rfl (fC cN rfl),Bt I.h4 rfl (fC cN rfl),Bt I.h5 rfl (fC cN rfl),Bt I.h7 rfl (fC cN rfl),Bt I.h8 rfl (fC cN rfl),Bt I.DL rfl (fC cN rfl),λx hx=>?_⟩
 ·exact ay (bh _ _ _ _ (fC cN rfl)) (ay (bh _ _ _ _ (by exact l5 rfl)) (ay (cM _ _ _ i1) (rfl)))
 ·have e:iH (lB p).d=[(p.d.q.k0,.tup [.int p.d.num,.int 0]),(p.d.q.k1,.tup [.int p.d.num,.int 1])]:=rfl
  rw[fS,uy hk,List.nil_append] at HD
  rw[fS,e,List.append_assoc]
  exact(HD.append_right _).trans (by
   rw[List.append_assoc]
   exact(List.perm_append_comm).append_left _)
 ·exact ay (bh _ _ _ _ (fC cN rfl)) (ay (cM _ _ _ (by simp[i2])) (rfl))
 ·have e:z4 (lB p)=[(.int p.d.num,.loc p.tl)]:=rfl
  rw[nL,Cf hk,List.nil_append] at uz
  rw[nL,e]
  exact(uz.append_right _).trans (by
   rw[List.append_assoc]
   exact(List.perm_append_comm).append_left _)
 ·exact qM hx (λhx=>KD (I.ht x (rF hx)) (R.hi x (rF hx)).2 rfl (u1 x hx).symm) (λe=>ay e (cM _ _ _ (by simp[In.of hp]))) λhx=>KD (I.ht x (ux hx)) (R.hi x (ux hx)).2 rfl (u2 x hx).symm
noncomputable def Cj(σ:aa)(ah:List Rw)(S:Nat)(G7:V)(s:Nat)(now:Int):Prop:=
  15≤S∧15≤s∧∃pk st gy g,(g:List (Nat × V)).length≤800∧
    ((G7=.none∧σ[S]? =some (aq pk (.int now) .none st gy (.loc 0) g))∨
     ∃p∈ah,G7=.loc p.rl∧σ[S]? =some (aq pk (.int now) (.loc p.tl) st gy (.loc 0) g)∧(p.d.st=0→σ[s]? =some (bR p.d.q)))
noncomputable def MA(ah:List Rw)(i:Nat):Prop:=ML ah i∨MP ah i
theorem jJ{a b c d e f:V}{g:List (Nat × V)}{x:Dt}:aq a b c d e f g≠cj x:=by intro e;simp[aq,cj] at e
theorem jK{q:Q}{x:Dt}:bR q≠aK x:=by intro e;simp[bR,aK] at e
theorem dj.off{σ τ:aa}{ah ou:List Rw}{cnt c0:Int}(I:dj σ ah cnt)(J:cB σ ou c0)(R:aN ah cnt)(R0:aN ou c0)(C:Ch (MP ou) σ τ):dj τ ah cnt:=by
 refine I.frame C ?_ ?_ λp hp=>?_
 ·rintro(h|h|h|⟨x,hx,h⟩)
  ·trivial
  ·trivial
  ·trivial
  ·have:=(R0.hi x hx).2;exact bO [_] [.f 1 (.num 12) vA,.l 1 (.num 15) vA] aI h this
 ·rintro(h|h|h|⟨x,hx,h⟩)
  ·trivial
  ·trivial
  ·trivial
  ·have:=(R0.hi x hx).2;exact bO [_] [.f 1 (.num 13) vA,.l 1 (.num 15) vA] aI h this
 ·have:=(R.hi p hp).1
  rintro(h|h|h|⟨x,hx,h⟩)
  ·exact bO [_] [.l 1 (.num 15) vA,.e 1 vA (.num 0)] aI this h
  ·exact bO [_] [.l 1 (.num 15) vA,.e 1 vA (.num 1)] aI this h
  ·exact bO [_] [.l 1 (.num 15) vA,.e 1 vA (.num 2)] aI this h
  ·exact i8 (I.hr p hp) (J.ht x hx) (kB _ _) h
theorem cB.off{σ τ:aa}{ah ou:List Rw}{cnt c0:Int}(J:cB σ ah cnt)(I:dj σ ou c0)(R:aN ah cnt)(R0:aN ou c0)(C:Ch (ML ou) σ τ):cB τ ah cnt:=by
 refine J.frame C (λi hi=>?_) λp hp=>?_
 ·rintro(h|h|⟨x,hx,h⟩)
  ·exact bO [_] [.l 1 vA (.num 10),.f 1 vA (.num 12)] aI hi h
  ·exact bO [_] [.l 1 vA (.num 10),.f 1 vA (.num 13)] aI hi h
  ·have:=(R0.hi x hx).1;exact bO [_,_] [.l 1 vA (.num 10),.f 1 vA vB,.l 1 (.num 15) vB] aI hi h this
 ·rintro(h|h|⟨x,hx,h⟩)
  ·exact i8 (J.ht p hp) I.h12 (by intro e;cases e) h
  ·exact i8 (J.ht p hp) I.qj (by intro e;cases e) h
  ·exact i8 (I.hr x hx) (J.ht p hp) (kB _ _) h.symm
theorem uB{ah av:List Rw}{p:Rw}{q:Q}{now:Int}{r:Option (Rw × Int)}(F:Fd ah q now av r)(hp:p∈ah)(hk:p.d.kept=false):p∈av:=by
 rcases F with⟨_,rfl,_⟩|⟨l1,p',l2,dir,rfl,hk',_,_,_,_,⟨_,rfl,_⟩|⟨_,rfl,_⟩⟩
 ·exact hp
 ·exact hp
 ·rcases mem_mid.mp hp with h|rfl|h
  ·exact mem_mid.mpr (.inl h)
  ·cases hk.symm.trans hk'
  ·exact mem_mid.mpr (.inr (.inr h))
theorem zN{l1 l2:List Rw}{p p':Rw}(h1:p'.rl=p.rl)(h2:p'.tl=p.tl):(l1++p'::l2).map (·.rl)=(l1++p::l2).map (·.rl)∧(l1++p'::l2).map (·.tl)=(l1++p::l2).map (·.tl):=by simp[h1,h2]
theorem xU{σ:aa}{ah:List Rw}{cnt now:Int}{S s:Nat}{G7:V}(I:dj σ ah cnt)(J:cB σ ah cnt)(R:aN ah cnt)(aV:ah.length≤20)(W:Cj σ ah S G7 s now):
  ∃v σ1 τ av,af P0 6 52 [.loc S] σ=some (v,σ1)∧af P0 6 64 [.loc 12,G7,.loc s,.int now] σ1=some (v,τ)∧bl 6 v=true∧dj τ av cnt∧cB τ av cnt∧aN av cnt∧Ev ah av∧av.map (·.rl)=ah.map (·.rl)∧av.map (·.tl)=ah.map (·.tl)∧Ch (MA ah) σ τ:=by
 obtain⟨hS,hs,pk,st,gy,g,hg,⟨rfl,Nl⟩|⟨p,hp,rfl,Nl,h0⟩⟩:=W
 ·exact⟨.none,σ,σ,ah,GC 5 S Nl,GK 5,rfl,I,J,R,Ev.refl _,rfl,rfl,Ch.refl _ _⟩
 have ht:=J.ht p hp
 have hr:=I.hr p hp
 by_cases hst:p.d.st=0
 ·have hk:p.d.kept=false:=by
   cases hk:p.d.kept with
   |false=>rfl
   |true=>have:=R.stK p hp hk;lia
  have G8:=h0 hst
  have hq:=R.wq p hp
  have ha:=R.ask p hp
  have h8:p.d.st &&& 8=0:=by rw[hst];rfl
  have Vp:p.d.st/8%2=0:=by rw[hst]
  have hpk:p.d.q.pk=p.d.q.t:=by simp[Q.pk,Q.t,ha]
  refine jo (Cg R hq now) λqb r F=>?_
  cases r with
  |some x=>
   refine dY λG hG=>?_
   have p':=x.1
   have dir:=x.2
   have hl:=DR 4 J R hq F
   rw[hpk] at hl
   have c1:=GD 5 S p.tl (v:= .none) Nl ht h8 hl
   refine gC (qa 4 I R G8 F) λτ e I' C=>?_
   refine dF F.some λe1 _=>?_
   subst e1
   refine hG ?_
   refine⟨_,σ,τ,qb,c1,GL 5 p.rl hr Vp e,rfl,I',J.off I R R C,R,Ev.refl _,rfl,rfl,C.mono λi=> .inl⟩
  |none=>
   refine dY λG hG=>?_
   refine gC (qP 2 J R hq aV F) λσ1 e1 J1 C1=>?_
   replace e1:=(hpk)▸e1
   have R1:=F.ok R
   have hn:=F.none
   have n0:p.d.q.k0∉aZ (cT qb):=by rw[←(Jc ha)];exact GW hq R1.wq hn
   have n1:p.d.q.k1∉aZ (cT qb):=Je hq ha R1.wq hn
   have hp1:=uB F hp hk
   refine jo (List.append_of_mem hp1) λm1 m2 cW=>?_
   subst cW
   have ht1:=J1.ht p hp1
   refine fj J1.hT λkT tab hT z0 HD=>?_
   refine fj J1.hK λkK dR hK hkK uz=>?_
   refine hG ?_
   have L2:=HD.length_eq
   have L3:=uq (m1++p::m2)
   have L4:=uz.length_eq
   have L5:=jx (m1++p::m2)
   have L6:=F.len
   have L7:=m7 tab p.d.q.k0 (.tup [.int p.d.num,.int 0])
   have c1:=GF 5 S p.tl (v:= .none) Nl ht h8 e1 (oX J hS Nl C1) ht1 (qN (n:=4) (now:=now) (zone:=p.d.q.zone) (t:=p.d.q.b) J1 (Cd _) n1) ht1 (R.hi p hp).2 J1.hB hT hK (z0.elim .inr λh=> .inl h.1) (hkK.elim .inr λh=> .inl h.1) (GS _) (Cd _) (by exact ltN [_,_,_,_] 1 vA (.num 900) [.l 2 vB (.num 20),.e 1 vA vC,.l 1 vC (.mulL 2 vD),.e 2 vD vB] aI aV L2 L3 L6) (by exact ltN [_,_,_,_,_] 1 vA (.num 900) [.l 2 vB (.num 20),.e 1 vC vD,.l 1 vD (.mulL 2 vE),.e 2 vE vB,.l 1 vA (.add vC (.num 1))] aI aV L2 L3 L6 L7) (by exact ltN [_,_,_,_] 1 vA (.num 900) [.l 1 vB (.num 20),.e 1 vA vC,.l 1 vC vD,.e 1 vD vB] aI aV L4 L5 L6)
   have J2:=J1.keep R1 hk hst n0 n1 hT HD hK uz
   have R2:=R1.keep hk hst n0 n1
   have C2:=((C1.set (i:=1) (.dict 3 (cA (cA tab p.d.q.k0 (.tup [.int p.d.num,.int 0])) p.d.q.k1 (.tup [.int p.d.num,.int 1]))) (.inr (.inl rfl))).set (i:=2) (.dict 1 (cA dR (.int p.d.num) (.loc p.tl))) (.inr (.inr (.inl rfl)))).set (i:=p.tl) (aK {p.d with st:=p.d.st ||| 8}) (.inr (.inr (.inr ⟨p,hp,rfl⟩)))
   generalize (((σ1.set 1 (.dict 3 (cA (cA tab p.d.q.k0 (.tup [.int p.d.num,.int 0])) p.d.q.k1 (.tup [.int p.d.num,.int 1])))).set 2 (.dict 1 (cA dR (.int p.d.num) (.loc p.tl)))).set p.tl (aK {p.d with st:=p.d.st ||| 8}))=σ2 at*
   have I2:=I.off J R R C2
   have MJ:σ2[s]? =some (bR p.d.q):=by
    refine C2.get G8 ?_
    rintro(h|h|h|⟨x,hx,h⟩)
    ·exact bO [_] [.l 1 (.num 15) vA,.e 1 vA (.num 0)] aI hs h
    ·exact bO [_] [.l 1 (.num 15) vA,.e 1 vA (.num 1)] aI hs h
    ·exact bO [_] [.l 1 (.num 15) vA,.e 1 vA (.num 2)] aI hs h
    ·exact i8 G8 (J.ht x hx) jK h
   refine gC (qa 4 I2 R MJ F) λτ e3 I3 C3=>?_
   have Vq:=zN (l1:=m1) (l2:=m2) (p:=p) (p':=lB p) rfl rfl
   have C4:Ch (ML ah) σ2 (τ.set p.rl (cj (lB p).d)):=C3.set _ (.inr (.inr ⟨p,hp,rfl⟩))
   refine⟨_,σ2,_,m1++lB p::m2,c1,GN 5 p.rl (I2.hr p hp) Vp e3 (I3.hr p hp1),rfl,(I3.upd (p':=lB p) R1 rfl),?_,R2,F.ev.trans (Ev.upd rfl rfl rfl rfl λ_=>hst),Vq.1.trans F.rls.1,Vq.2.trans F.rls.2,(C2.mono λi=> .inr).trans (C4.mono λi=> .inl)⟩
   exact J2.off I2 R2 R C4
 ·have h8:p.d.st &&& 8≠0∧p.d.st/8%2=1:=by
   cases hk:p.d.kept with
   |false=>
    rcases R.stN p hp hk with h|h|h|h
    ·exact absurd h hst
    all_goals rw[h];exact⟨by decide,rfl⟩
   |true=>
    rcases R.stK p hp hk with h|h|h
    all_goals rw[h];exact⟨by decide,rfl⟩
  exact⟨.none,σ,σ,ah,I5 5 S p.tl Nl ht h8.1,I9 5 p.rl hr h8.2,rfl,I,J,R,Ev.refl _,rfl,rfl,Ch.refl _ _⟩
noncomputable def nv(l:List Nat):List V:=l.map λn:Nat=>V.int (n:Int)
noncomputable def cD(ai:Int)(e:Nat):Int:=if ai=2 then 167772161+e else 168811955464684315858783496655603761153+257*e
noncomputable def cy(ai:Int)(e:Nat):List Nat:=if ai=2 then [10,0,0,1+e] else [127,0,0,0,0,0,0,0,0,0,0,0,0,0,e,e+1]
noncomputable def gW(p:Nat):List Nat:=[p/256,p%256]
noncomputable def jL:List Nat:=[0,185,7,8,1000,1001,1002,1010,1011,1012]
noncomputable def gv(x:Option (V × aa))(v:V):Bool:=match x with
 |some (w,_)=>decide (w=v)
 |_=>false
theorem YG{x:Option (V × aa)}{v:V}{σ:aa}(h:gv x v=true)(h2:x.map Prod.snd=some σ):x=some (v,σ):=by
 unfold gv at h
 split at h
 ·cases h2;rw[dw h]
 ·cases h
theorem allAt{α:Type}{f:α→Option (V × aa)}{g:α→V}{σ:aa}{l:List α}(h:decide ((l.all λa=>gv (f a) (g a))=true)=true){n:Nat}(h2:(l.map λa=>(f a).map Prod.snd)=List.replicate n (some σ)){a:α}(ha:a∈l):f a=some (g a,σ):=
 YG (iP (dw h) a ha) ((List.eq_replicate_iff.mp h2).2 _ (List.mem_map.mpr ⟨a,ha,rfl⟩))
theorem Th{p:Nat}(h:p∈jL)(σ:aa):af P0 3 0 [.aM (gW p)] σ=some (.int p,σ):=allAt (f:=λp:Nat=>af P0 3 0 [.aM (gW p)] σ) (g:=λp:Nat=> .int p) (l:=jL) (n:=10) (by kernel_rfl) (by kernel_rfl) h
theorem MK{p:Nat}(h:p∈jL)(σ:aa):af P0 2 0 [.aM (gW p)] σ=some (.int p,σ):=allAt (f:=λp:Nat=>af P0 2 0 [.aM (gW p)] σ) (g:=λp:Nat=> .int p) (l:=jL) (n:=10) (by kernel_rfl) (by kernel_rfl) h
theorem Vr:∀k:Nat,k<2→k=0∨k=1:=by decide
theorem Ti:∀k:Nat,k<3→k=0∨k=1∨k=2:=by decide
theorem YH:∀k:Nat,k<4→k=0∨k=1∨k=2∨k=3:=by decide
theorem YI:∀k:Nat,k<6→k=0∨k=1∨k=2∨k=3∨k=4∨k=5:=by decide
theorem Vs:∀k:Nat,k<8→k=0∨k=1∨k=2∨k=3∨k=4∨k=5∨k=6∨k=7:=by decide
theorem DT{e:Nat}(h:e<3):e∈[0,1,2]:=by
 have:=Ti e h
 rcases this with rfl|rfl|rfl<;>trivial
theorem PE{ai:Int}{e:Nat}(hf:ai=2∨ai=10)(h:e<3)(σ:aa):af P0 3 0 [.aM (cy ai e)] σ=some (.int (cD ai e),σ):=by
 rcases hf with rfl|rfl
 ·exact allAt (f:=λe:Nat=>af P0 3 0 [.aM (cy 2 e)] σ) (g:=λe=> .int (cD 2 e)) (l:=[0,1,2]) (n:=3) (by kernel_rfl) (by kernel_rfl) (DT h)
 ·exact allAt (f:=λe:Nat=>af P0 3 0 [.aM (cy 10 e)] σ) (g:=λe=> .int (cD 10 e)) (l:=[0,1,2]) (n:=3) (by kernel_rfl) (by kernel_rfl) (DT h)
noncomputable def Tj:List Nat:=[0,7,8,12,28,32,1000,1001,1002,1010,1011,1012]
theorem DU{p:Nat}(h:p∈[0,7,8,12,28,32,1000,1001,1002,1010,1011,1012])(σ:aa):af P0 4 55 [.int (p:Nat),.int 2] σ=some (.lst (nv (gW p)),σ):=allAt (f:=λp:Nat=>af P0 4 55 [.int (p:Nat),.int 2] σ) (g:=λp=> .lst (nv (gW p))) (l:=Tj) (n:=12) (by kernel_rfl) (by kernel_rfl) h
theorem KG{e:Nat}(h:e<3)(σ:aa):af P0 4 55 [.int (cD 2 e),.int 4] σ=some (.lst (nv (cy 2 e)),σ):=allAt (f:=λe:Nat=>af P0 4 55 [.int (cD 2 e),.int 4] σ) (g:=λe=> .lst (nv (cy 2 e))) (l:=[0,1,2]) (n:=3) (by kernel_rfl) (by kernel_rfl) (DT h)
theorem KH{e:Nat}(h:e<3)(σ:aa):af P0 4 55 [.int (cD 10 e),.int 16] σ=some (.lst (nv (cy 10 e)),σ):=allAt (f:=λe:Nat=>af P0 4 55 [.int (cD 10 e),.int 16] σ) (g:=λe=> .lst (nv (cy 10 e))) (l:=[0,1,2]) (n:=3) (by kernel_rfl) (by kernel_rfl) (DT h)
theorem Vt{ai:Int}{e:Nat}(hf:ai=2∨ai=10)(h:e<3)(σ:aa):af P0 5 56 [.int e,.int ai] σ=some (.int (cD ai e),σ):=by
 rcases hf with rfl|rfl
 ·exact allAt (f:=λe:Nat=>af P0 5 56 [.int e,.int 2] σ) (g:=λe=> .int (cD 2 e)) (l:=[0,1,2]) (n:=3) (by kernel_rfl) (by kernel_rfl) (DT h)
 ·exact allAt (f:=λe:Nat=>af P0 5 56 [.int e,.int 10] σ) (g:=λe=> .int (cD 10 e)) (l:=[0,1,2]) (n:=3) (by kernel_rfl) (by kernel_rfl) (DT h)
theorem qc{ai:Int}{e:Nat}(h:e<3):∀b∈cy ai e,b<256:=by
 unfold cy
 split<;>intro b hb<;>simp at hb<;>lia
theorem G9{ai:Int}{a b:Nat}(h:cD ai a=cD ai b):a=b:=by
 unfold cD at h
 split at h<;>(first|exact dH (Int.ofNat_le.mp (lD [_,_] 1 vA vB [.e 1 (.add (.num 167772161) vA) (.add (.num 167772161) vB)] aI h)) (Int.ofNat_le.mp (lD [_,_] 1 vA vB [.f 1 (.add (.num 167772161) vB) (.add (.num 167772161) vA)] aI h))|exact dH (Int.ofNat_le.mp (lD [_,_] 257 vA vB [.e 1 (.add (.num 168811955464684315858783496655603761153) (.mulL 257 vA)) (.add (.num 168811955464684315858783496655603761153) (.mulL 257 vB))] aI h)) (Int.ofNat_le.mp (lD [_,_] 257 vA vB [.f 1 (.add (.num 168811955464684315858783496655603761153) (.mulL 257 vB)) (.add (.num 168811955464684315858783496655603761153) (.mulL 257 vA))] aI h)))
theorem wk:∀{l:List Nat},(∀b∈l,b<256)→mu (nv l)=some l
 | [],_=>rfl
 |b::l,h=>by
  have hb:=h b (by simp)
  have hr:=wk (l:=l) λx hx=>h x (by simp[hx])
  simp only[nv,fm,mu] at hr⊢
  refine ay (aC (by lia)) (ay hr (?_))
  rfl
theorem mulQ{a b:Int}(ha:gY a=true)(hb:gY b=true):jq .mul (.int a) (.int b)=some (.int (a*b)):=aj (Option.map V.int) (aC (Bool.and_eq_true_iff.mpr ⟨ha,hb⟩))
theorem zO{i:Int}{k:Nat}(h:i=k)(hk:k<1000000):gE i=some k:=by
 refine ay h ?_
 exact aC ⟨fF k,by exact ltI [_] 1 vA (.num 16777216) [.s 1 vA (.num 1000000)] aI (Int.ofNat_lt.mpr hk)⟩
theorem c1(n:Nat){l:List Nat}{pr q:Nat}(Tn:20≤l.length)(hl:l.length≤1000)(h0:l[0]? =some 69)(h9:l[9]? =some pr)(hq:q=0∨q=185)(hn:∀σ,af P0 n 0 [.aM (nQ l 6 8)] σ=some (.int q,σ))(σ:aa):
  af P0 (n+1) 1 [.aM l] σ=some (.tup [.int pr,.int 20,.int (q*8:Nat),.bool false],σ):=by
 have h1:l.length≤100000:=cV ‹_› (aD rfl)
 have h2:¬(l.length:Int)<20:=by exact kD (lD [_] 1 (.num 20) vA [.l 1 (.num 20) vA] aI (gh Tn))
 have i0:∀σ,cH (.aM l) (.int 0) σ=some (.int 69):=λσ=>IT rfl h0
 have i9:∀σ,cH (.aM l) (.int 9) σ=some (.int pr):=λσ=>IT rfl h9
 have s6:HP (.aM l) (.int 6) (.int 8)=some (.aM (nQ l 6 8)):=zC rfl rfl hl
 rcases hq with rfl|rfl
 ·exact nG (d:=f1) rfl rfl λφ=>φ (ku h1) (Eb h2) (i0 _) rfl (uT (by decide)) (i0 _) rfl rfl (Eb (by decide)) (ku h1) (IU h2) s6 (hn _) (i9 _) rfl rfl rfl (uT (rfl))
 ·exact nG (d:=f1) rfl rfl λφ=>φ (ku h1) (Eb h2) (i0 _) rfl (uT (by decide)) (i0 _) rfl rfl (Eb (by decide)) (ku h1) (IU h2) s6 (hn _) (i9 _) rfl rfl rfl (uT (by decide))
theorem Jp(n:Nat){l:List Nat}(Tn:l.length<20)(σ:aa):af P0 (n+1) 1 [.aM l] σ=some (.none,σ):=by
 have h1:l.length≤100000:=by exact cP [_] 1 vA (.num 100000) [.s 1 vA (.num 20)] aI Tn
 exact nG (d:=f1) rfl rfl λt=>t (ku h1) (Mp (Int.ofNat_lt.mpr ‹_›))
theorem c3(n:Nat){o at' en:V}{pr:Nat}(hp:pr=17∨pr=58)(σ:aa):af P0 (n+2) 3 [o,at',.int pr,en] σ=some (.int 0,σ):=by
 rcases hp with rfl|rfl
 ·exact nG (d:=f3) rfl rfl λφ=>φ (nG (d:=f2) rfl rfl λφ=>φ rfl rfl rfl) rfl
 ·exact nG (d:=f3) rfl rfl λφ=>φ (nG (d:=f2) rfl rfl λφ=>φ rfl rfl rfl) rfl
theorem c5(n:Nat){l:List Nat}{pr:Nat}(QW:40≤l.length)(hl:l.length≤1000)(h0:l[0]? =some 96)(h6:l[6]? =some pr)(hp:pr=17∨pr=58)(σ:aa):
  af P0 (n+3) 5 [.aM l] σ=some (.tup [.int pr,.int 40,.int 0,.bool false],σ):=by
 have h1:l.length≤100000:=by exact cP [_] 1 vA (.num 100000) [.l 1 vA (.num 1000)] aI hl
 have h2:¬(l.length:Int)<40:=by exact kD (lD [_] 1 (.num 40) vA [.l 1 (.num 40) vA] aI (gh QW))
 have e:=λo a b=>c3 n (o:=o) (at':=a) (en:=b) hp σ
 have i0:∀σ,cH (.aM l) (.int 0) σ=some (.int 96):=λσ=>IT rfl h0
 have i6:∀σ,cH (.aM l) (.int 6) σ=some (.int pr):=λσ=>IT rfl h6
 clear h6 h0 hl QW
 rcases hp with rfl|rfl
 ·exact nG (d:=f5) rfl rfl λφ=>φ (ku h1) (Eb h2) (i0 _) rfl (uT (by decide)) (i6 _) rfl (ku h1) (e _ _ _) rfl (gn (by decide)) rfl
 ·exact nG (d:=f5) rfl rfl λφ=>φ (ku h1) (Eb h2) (i0 _) rfl (uT (by decide)) (i6 _) rfl (ku h1) (e _ _ _) rfl (gn (by decide)) rfl
theorem Jq(n:Nat){l:List Nat}(QW:l.length<40)(σ:aa):af P0 (n+1) 5 [.aM l] σ=some (.none,σ):=by
 have h1:l.length≤100000:=by exact cP [_] 1 vA (.num 100000) [.s 1 vA (.num 40)] aI QW
 exact nG (d:=f5) rfl rfl λt=>t (ku h1) (Mp (Int.ofNat_lt.mpr ‹_›))
theorem Vu(n:Nat){l:List Nat}{ai:Int}(h:l.length<20)(σ:aa):af P0 (n+2) 24 [.aM l,.int ai] σ=some (.none,σ):=by
 by_cases hf:ai=2
 ·subst hf;exact nG (d:=Q7) (ρ:=[some (.aM l),some (.int 2),none]) rfl rfl λφ=>φ rfl (Jp n h σ) rfl
 ·exact nG (d:=Q7) (ρ:=[some (.aM l),some (.int ai),none]) rfl rfl λφ=>φ (gn hf) (Jq n (l:=l) (Nat.lt_trans h (by decide)) σ) rfl
theorem Jr(n:Nat){l:List Nat}{ai:Int}{off sp dp:Nat}(ho:off=20∨off=40)(hl:l.length≤1000)(h4:off+4≤l.length)(h1:∀σ,af P0 n 0 [.aM (nQ l off (off+2))] σ=some (.int sp,σ))(h2:∀σ,af P0 n 0 [.aM (nQ l (off+2) (off+4))] σ=some (.int dp,σ))(σ:aa):
  af P0 (n+1) 21 [.aM l,.int ai,.int 17,.int off] σ=some (.tup [.int sp,.int dp],σ):=by
 have n9:l.length≤100000:=cV ‹_› (aD rfl)
 have h3:¬(l.length:Int)<off+4:=by exact kD (lD [_,_] 1 (.add vA (.num 4)) vB [.l 1 (.add vA (.num 4)) vB] aI (gh h4))
 have e1:HP (.aM l) (.int off) (.int (off+2))=some (.aM (nQ l off (off+2))):=zC (zO rfl (by exact ltN [_,_] 1 vA (.num 1000000) [.l 1 vB (.num 1000),.l 1 (.add vA (.num 4)) vB] aI hl h4)) (zO (k:=off+2) rfl (by exact ltN [_,_] 1 (.add vA (.num 2)) (.num 1000000) [.l 1 vB (.num 1000),.l 1 (.add vA (.num 4)) vB] aI hl h4)) hl
 have e2:HP (.aM l) (.int (off+2)) (.int (off+4))=some (.aM (nQ l (off+2) (off+4))):=zC (zO (k:=off+2) rfl (by exact ltN [_,_] 1 (.add vA (.num 2)) (.num 1000000) [.l 1 vB (.num 1000),.l 1 (.add vA (.num 4)) vB] aI hl h4)) (zO (k:=off+4) rfl (by exact ltN [_,_] 1 (.add vA (.num 4)) (.num 1000000) [.l 1 vB (.num 1000),.l 1 (.add vA (.num 4)) vB] aI hl h4)) hl
 exact nG (d:=JM) (ρ:=[some (.aM l),some (.int ai),some (.int 17),some (.int off),none,none]) rfl rfl λφ=>φ rfl rfl rfl (ku n9) (IU h3) rfl e1 (h1 _) rfl rfl e2 (h2 _)
theorem Hf(n:Nat){l:List Nat}{ai:Int}{off:Nat}(ho:off=20∨off=40)(h4:l.length<off+4)(σ:aa):
  af P0 (n+1) 21 [.aM l,.int ai,.int 17,.int off] σ=some (.none,σ):=by
 have n9:l.length≤100000:=by lia
 rcases ho with rfl|rfl
 ·have h3:=Int.ofNat_lt.mpr ‹_›
  exact nG (d:=JM) rfl rfl λt=>t rfl rfl rfl (ku n9) (Kq h3)
 ·have h3:=Int.ofNat_lt.mpr ‹_›
  exact nG (d:=JM) rfl rfl λt=>t rfl rfl rfl (ku n9) (Kq h3)
theorem Js(n:Nat){l:List Nat}{off:V}(σ:aa):af P0 (n+2) 21 [.aM l,.int 2,.int 47,off] σ=some (.tup [.int 0,.int 0],σ):=by
 exact nG (d:=JM) rfl rfl λt=>t rfl rfl (Pe n 2 47 σ)
theorem PF(n:Nat){ai proto:Int}(hi:(ai=2∧proto=1)∨(ai=10∧proto=58))(σ:aa):af P0 (n+1) 18 [.int ai,.int proto] σ=some (.bool true,σ):=by
 rcases hi with⟨rfl,rfl⟩|⟨rfl,rfl⟩<;>exact Pe n _ _ σ
theorem wm(n:Nat){l:List Nat}{ai proto:Int}{off:Nat}(hi:(ai=2∧proto=1)∨(ai=10∧proto=58))(ho:off=20∨off=40)(h4:l.length<off+8)(σ:aa):
  af P0 (n+2) 21 [.aM l,.int ai,.int proto,.int off] σ=some (.none,σ):=by
 have n9:l.length≤100000:=by lia
 have p6:¬proto=6:=by lia
 have p7:¬proto=17:=by lia
 have h3:(l.length:Int)<off+8:=by exact ltI [_,_] 1 vA (.add vB (.num 8)) [.s 1 vA (.add vB (.num 8))] aI (Int.ofNat_lt.mpr h4)
 exact nG (d:=JM) rfl rfl λφ=>φ (gn p6) (gn p7) ((PF n hi) _) rfl (ku n9) (Kq h3)
theorem Hg(n:Nat){l:List Nat}{ai proto:Int}{off kind code bu:Nat}(hi:(ai=2∧proto=1)∨(ai=10∧proto=58))(ho:off=20∨off=40)(hl:l.length≤1000)(h8:off+8≤l.length)(hk:l[off]? =some kind)(hc:l[off+1]? =some code)(hk2:kind<256)
  (h1:∀σ,af P0 (n+1) 0 [.aM (nQ l (off+4) (off+6))] σ=some (.int bu,σ))(σ:aa):
  af P0 (n+2) 21 [.aM l,.int ai,.int proto,.int off] σ=some (.tup [.int (if 0≤bV ai kind then bu else 0),.int (kind*256+code:Nat)],σ):=by
 have n9:l.length≤100000:=cV ‹_› (aD rfl)
 have e:=PF n hi
 have p6:¬proto=6:=by lia
 have p7:¬proto=17:=by lia
 have h3:¬(l.length:Int)<off+8:=by exact kD (lD [_,_] 1 (.add vA (.num 8)) vB [.l 1 (.add vA (.num 8)) vB] aI (gh h8))
 have e2:=Vf n ai kind
 have e3:∀σ,cH (.aM l) (.int off) σ=some (.int kind):=λσ=>IT (zO rfl (by exact ltN [_,_] 1 vA (.num 1000000) [.l 1 vB (.num 1000),.l 1 (.add vA (.num 8)) vB] aI hl h8)) hk
 have e4:∀σ,cH (.aM l) (.int (off+1)) σ=some (.int code):=λσ=>IT (zO (k:=off+1) rfl (by exact ltN [_,_] 1 (.add vA (.num 1)) (.num 1000000) [.l 1 vB (.num 1000),.l 1 (.add vA (.num 8)) vB] aI hl h8)) hc
 have e5:HP (.aM l) (.int (off+4)) (.int (off+6))=some (.aM (nQ l (off+4) (off+6))):=zC (zO (k:=off+4) rfl (by exact ltN [_,_] 1 (.add vA (.num 4)) (.num 1000000) [.l 1 vB (.num 1000),.l 1 (.add vA (.num 8)) vB] aI hl h8)) (zO (k:=off+6) rfl (by exact ltN [_,_] 1 (.add vA (.num 6)) (.num 1000000) [.l 1 vB (.num 1000),.l 1 (.add vA (.num 8)) vB] aI hl h8)) hl
 have hs:gY (kind:Int)=true:=p8 (fF _) (by exact lD [_] 1 vA (.num 100000) [.s 1 vA (.num 256)] aI (Int.ofNat_lt.mpr hk2))
 have e6:jq .mul (.int kind) (.int 256)=some (.int (kind*256)):=mulQ hs (by decide)
 refine ay (show((kind*256+code:Nat):Int)=(kind:Int)*256+code by exact Int.le_antisymm (lD [_,_] 1 (.add (.mulR vA 256) vB) (.add (.mulR vA 256) vB) [] aI) (lD [_,_] 1 (.add (.mulR vA 256) vB) (.add (.mulR vA 256) vB) [] aI)) (?_)
 by_cases h0:0≤bV ai kind
 ·refine ay (aC h0) (?_)
  exact nG (d:=JM) (ρ:=[some (.aM l),some (.int ai),some (.int proto),some (.int off),none,none]) rfl rfl λφ=>φ (gn p6) (gn p7) (e _) rfl (ku n9) (IU h3) (e3 _) (e2 _) (Yo h0) rfl rfl e5 (h1 _) e6 rfl (e4 _) rfl
 ·refine ay (aB h0) (?_)
  exact nG (d:=JM) (ρ:=[some (.aM l),some (.int ai),some (.int proto),some (.int off),none,none]) rfl rfl λφ=>φ (gn p6) (gn p7) (e _) rfl (ku n9) (IU h3) (e3 _) (e2 _) (QM h0) e6 rfl (e4 _) rfl
theorem uC(n:Nat){l:List Nat}{ai proto off:Int}{σ:aa}(h:af P0 n 21 [.aM l,.int ai,.int proto,.int off] σ=some (.none,σ)):af P0 (n+1) 22 [.aM l,.int ai,.int proto,.int off] σ=some (.none,σ):=by
 exact nG (d:=Ql) rfl rfl λt=>t h rfl
theorem PG(n:Nat){l:List Nat}{proto off a1 a2:Int}{p q:V}{σ:aa}(hl:l.length≤1000)(h:af P0 n 21 [.aM l,.int 2,.int proto,.int off] σ=some (.tup [p,q],σ))
  (h1:af P0 n 0 [.aM (nQ l 12 16)] σ=some (.int a1,σ))(h2:af P0 n 0 [.aM (nQ l 16 20)] σ=some (.int a2,σ)):af P0 (n+1) 22 [.aM l,.int 2,.int proto,.int off] σ=some (.tup [.int 2,.int proto,.int a1,p,.int a2,q],σ):=by
 exact nG (d:=Ql) (ρ:=[some (.aM l),some (.int 2),some (.int proto),some (.int off),none,none,none,none,none]) rfl rfl λφ=>φ h rfl rfl rfl (zC rfl rfl hl) h1 rfl rfl rfl (zC rfl rfl hl) h2 rfl rfl
theorem PI(n:Nat){l:List Nat}{proto off a1 a2:Int}{p q:V}{σ:aa}(hl:l.length≤1000)(h:af P0 n 21 [.aM l,.int 10,.int proto,.int off] σ=some (.tup [p,q],σ))
  (h1:af P0 n 0 [.aM (nQ l 8 24)] σ=some (.int a1,σ))(h2:af P0 n 0 [.aM (nQ l 24 40)] σ=some (.int a2,σ)):af P0 (n+1) 22 [.aM l,.int 10,.int proto,.int off] σ=some (.tup [.int 10,.int proto,.int a1,p,.int a2,q],σ):=by
 exact nG (d:=Ql) (ρ:=[some (.aM l),some (.int 10),some (.int proto),some (.int off),none,none,none,none,none]) rfl rfl λφ=>φ h rfl rfl rfl (zC rfl rfl hl) h1 rfl rfl rfl (zC rfl rfl hl) h2 rfl rfl
noncomputable def Ck(h q pr:Nat)(S T aW:List Nat):List Nat:=69::0::h/256::h%256::0::1::q/256::q%256::64::pr::0::0::(S++(T++aW))
noncomputable def Bu(h pr:Nat)(S T aW:List Nat):List Nat:=96::0::0::0::h/256::h%256::pr::64::(S++(T++aW))
theorem Cn(A B C:List Nat)(i j:Nat)(hi:i=A.length)(hj:j=A.length+B.length):nQ (A++(B++C)) i j=B:=by
 subst hi hj
 simp[nQ]
theorem Hh(A B:List Nat)(i j k:Nat)(hk:k=A.length):nQ (A++B) (k+i) (k+j)=nQ B i j:=by
 refine ay hk ?_
 simp only[nQ]
 rw[List.drop_append,List.drop_eq_nil_of_le (by exact cP [_,_] 1 vA (.add vA vB) [] aI),List.nil_append]
 congr 1
 ·lia
 ·congr 1;exact dH (cP [_,_,_] 1 vA vB [.e 1 (.add vA vC) (.add vC vB)] aI (Nat.sub_add_cancel (cP [_,_] 1 vA (.add vA vB) [] aI))) (cP [_,_,_] 1 vA vB [.l 1 (.add vC vA) (.add vB vC)] aI (Nat.le_add_of_sub_le (bS _)))
theorem Hi(A B:List Nat)(i k:Nat)(hk:k=A.length):(A++B)[k+i]? =B[i]? :=by
 refine ay hk ?_
 refine ay (List.getElem?_append_right (by exact cP [_,_] 1 vA (.add vA vB) [] aI)) (?_)
 congr 1;exact dH (cP [_,_,_] 1 vA vB [.e 1 (.add vA vC) (.add vC vB)] aI (Nat.sub_add_cancel (cP [_,_] 1 vA (.add vA vB) [] aI))) (cP [_,_,_] 1 vA vB [.l 1 (.add vC vA) (.add vB vC)] aI (Nat.le_add_of_sub_le (bS _)))
noncomputable def DV(l:List Nat)(off:Nat)(S T aW:List Nat):Prop:=∃H:List Nat,l=H++(S++(T++aW))∧S.length=T.length∧H.length+S.length+T.length=off
theorem PJ{h q pr:Nat}{S T aW:List Nat}(hS:S.length=4)(hT:T.length=4):DV (Ck h q pr S T aW) 20 S T aW:=⟨[69,0,h/256,h%256,0,1,q/256,q%256,64,pr,0,0],rfl,by exact dH ((cG (Eq.trans hS (Eq.symm hT)))) ((cG (Eq.trans hT (Eq.symm hS)))),by simp[hS,hT]⟩
theorem PL{h pr:Nat}{S T aW:List Nat}(hS:S.length=16)(hT:T.length=16):DV (Bu h pr S T aW) 40 S T aW:=⟨[96,0,0,0,h/256,h%256,pr,64],rfl,by exact dH ((cG (Eq.trans hS (Eq.symm hT)))) ((cG (Eq.trans hT (Eq.symm hS)))),by simp[hS,hT]⟩
theorem DV.len{l S T aW:List Nat}{off:Nat}(h:DV l off S T aW):l.length=off+aW.length:=by
 refine gC h λH bP h1 h2=>?_
 refine ay bP ?_
 simp only[eG];grind
theorem DV.cuts{l S T aW:List Nat}{off:Nat}(h:DV l off S T aW):nQ l (off-2*S.length) (off-S.length)=S∧nQ l (off-S.length) off=T:=by
 refine gC h λH bP h1 h2=>?_
 refine ay bP ?_
 refine⟨Cn _ _ _ _ _ (by exact dH (cP [_,_,_,_,_] 1 vA vB [.f 1 vC vD,.f 1 (.add (.add vB vC) vD) vE,.e 1 (.add vA (.mulL 2 vC)) vE] aI h1 h2 (Nat.sub_add_cancel (cP [_,_,_,_] 1 (.mulL 2 vA) vB [.e 1 vA vC,.e 1 (.add (.add vD vA) vC) vB] aI h1 h2))) (cP [_,_,_,_,_] 1 vA vB [.e 1 vC vD,.e 1 (.add (.add vA vC) vD) vE,.l 1 vE (.add vB (.mulL 2 vC))] aI h1 h2 (Nat.le_add_of_sub_le (bS _)))) (by omega),?_⟩
 rw[←List.append_assoc]
 exact Cn _ _ _ _ _ (by simp only[eG];omega) (by simp only[eG];exact dH ((cG (Eq.symm h2))) (cG h2))
theorem DV.aW{l S T aW:List Nat}{off:Nat}(h:DV l off S T aW)(i j:Nat):nQ l (off+i) (off+j)=nQ aW i j:=by
 refine gC h λH bP h1 h2=>?_
 refine ay bP ?_
 rw[←List.append_assoc,←List.append_assoc]
 exact Hh _ _ _ _ _ (by simp only[eG];grind)
theorem DV.get{l S T aW:List Nat}{off:Nat}(h:DV l off S T aW)(i:Nat):l[off+i]? =aW[i]? :=by
 refine gC h λH bP h1 h2=>?_
 refine ay bP ?_
 rw[←List.append_assoc,←List.append_assoc]
 exact Hi _ _ _ _ (by simp only[eG];grind)
theorem DV.drop{l S T aW:List Nat}{off:Nat}(h:DV l off S T aW)(i:Nat)(hi:aW.length≤i+8):(l.drop (off+i)).length≤8:=by
 have:=h.len
 rw[List.length_drop];omega
@[scoped simp] theorem xV(l:List Nat):(nv l).length=l.length:=by simp[nv]
theorem xW(a b:List Nat):nv (a++b)=nv a++nv b:=by simp[nv]
theorem Jt(a:List Nat)(n:Nat):(nv a).take n=nv (a.take n):=by simp[nv,List.map_take]
theorem zP{l:List Nat}(h:∀b∈l,b<256)(hl:l.length≤100)(σ:aa):dJ .bytes (.lst (nv l)) σ=some (.bytes l):=by
 refine(?_:(if(nv l).length≤100000 then(mu (nv l)).map V.bytes else none)=_)
 simp only[aC (by rw[xV];exact cP [_] 1 vA (.num 100000) [.l 1 vA (.num 100)] aI hl:(nv l).length≤100000),wk h,Option.map_some]
theorem Vv(S T p:List Nat):nv S++nv T++nv p=nv (S++(T++p)):=by rw[xW,xW,List.append_assoc]
theorem zQ{a b:List V}{i j:Nat}(ha:a.length≤i)(hb:b.length≤j)(h:Nat.ble (i+j) 1000=true):jq .add (.lst a) (.lst b)=some (.lst (a++b))∧(a++b).length≤i+j:=
 have k:(a++b).length≤i+j:=cV (cG eG) (Nat.add_le_add ha hb)
 ⟨aC ⟨rfl,cV (Nat.add_le_add ha hb) (aD h)⟩,k⟩
theorem qd{l:List Nat}{k:Nat}(h:l.length≤k):(nv l).length≤k:=(xV l).symm▸h
theorem MM{p:List Nat}(h:p.length≤12):NX (.lst (nv p)) (.int 3)=some (.lst (nv (p.take 3))):=by
 show qp (.lst (nv p)) none (some 3)=_
 exact(aC (cV (qd h) (by decide))).trans (aj (λl=>some (V.lst l)) (Jt p 3))
theorem PM{pr:Nat}{a1 a2:Int}{S T aW:List Nat}{aE:Int}(n8:aW.length=8∨aW.length=12)(hS:∀σ,af P0 4 55 [.int a1,.int 4] σ=some (.lst (nv S),σ))(hT:∀σ,af P0 4 55 [.int a2,.int 4] σ=some (.lst (nv T),σ))(lS:S.length=4)(lT:T.length=4)
  (hb:∀b∈Ck (20+aW.length) (if aE=5 then 185 else 0) pr S T (if aE=6 then aW.take 3 else aW),b<256)(σ:aa):
  af P0 5 60 [.int 2,.int pr,.int a1,.int a2,.lst (nv aW),.int aE] σ=some (.bytes (Ck (20+aW.length) (if aE=5 then 185 else 0) pr S T (if aE=6 then aW.take 3 else aW)),σ):=by
 have hh:∀σ,af P0 4 55 [.int (20+(aW.length:Int)),.int 2] σ=some (.lst (nv (gW (20+aW.length))),σ):=by
  intro σ
  rcases n8 with h|h
  ·rw[h];exact DU (p:=28) (by decide) σ
  ·rw[h];exact DU (p:=32) (by decide) σ
 have hp:aW.length≤12:=by omega
 have hL:∀σ,dJ .len (.lst (nv aW)) σ=some (.int aW.length):=λσ=>(aC (cV (qd hp) (by decide))).trans (aj (λk:Nat=>some (V.int k)) (xV aW))
 have oJ:=zP hb (by simp[Ck,lS,lT];split<;>(try simp)<;>(first|exact cP [_] 1 (.add (.num 4) (.add (.num 4) vA)) (.num 88) [.l 1 vA (.num 12)] aI hp|lia)) σ
 have k:∀{q:Nat},_:=λ{q}=>zQ (a:=[.int 69,.int 0]++nv (gW (20+aW.length))++[.int 0,.int 1]++nv (gW q)) (b:=[.int 64,.int pr,.int 0,.int 0]) (i:=8) (j:=4) (bS _) (bS _) rfl
 have kS:∀{q:Nat},_:=λ{q}=>zQ (k (q:=q)).2 (qd (cG lS)) rfl
 have kT:∀{q:Nat},_:=λ{q}=>zQ (kS (q:=q)).2 (qd (cG lT)) rfl
 have kP:∀{q:Nat}{p:List Nat}(h:p.length≤12),_:=λ{q p} h=>zQ (kT (q:=q)).2 (qd h) rfl
 have hX:∀{q:Nat}{p:List Nat},[V.int 69,.int 0]++nv (gW (20+aW.length))++[.int 0,.int 1]++nv (gW q)++[.int 64,.int pr,.int 0,.int 0]++nv S++nv T++nv p=nv (Ck (20+aW.length) q pr S T p):=
  λ{q p}=>aj (λz=>nv (69::0::(20+aW.length)/256::(20+aW.length)%256::0::1::q/256::q%256::64::pr::0::[0])++z) (Vv S T p)
 by_cases h5:aE=5
 ·subst h5
  have oJ:dJ .bytes (.lst (nv (Ck (20+aW.length) 185 pr S T aW))) σ=some (.bytes (Ck (20+aW.length) 185 pr S T aW)):=oJ
  rw[←hX] at oJ
  exact nG (d:=KR) (ρ:=[some (.int 2),some (.int pr),some (.int a1),some (.int a2),some (.lst (nv aW)),some (.int 5),none,none]) rfl rfl λφ=>φ rfl rfl (hL _) rfl (hh _) rfl rfl rfl (k (q:=185)).1 (hS _) (kS (q:=185)).1 (hT _) (kT (q:=185)).1 rfl rfl rfl (kP (q:=185) hp).1 oJ
 by_cases h6:aE=6
 ·subst h6
  have hp3:(aW.take 3).length≤12:=cV (List.length_take_le' ..) hp
  have oJ:dJ .bytes (.lst (nv (Ck (20+aW.length) 0 pr S T (aW.take 3)))) σ=some (.bytes (Ck (20+aW.length) 0 pr S T (aW.take 3))):=oJ
  rw[←hX] at oJ
  exact nG (d:=KR) (ρ:=[some (.int 2),some (.int pr),some (.int a1),some (.int a2),some (.lst (nv aW)),some (.int 6),none,none]) rfl rfl λφ=>φ rfl rfl (hL _) rfl (hh _) rfl rfl rfl (k (q:=0)).1 (hS _) (kS (q:=0)).1 (hT _) (kT (q:=0)).1 rfl (MM hp) (kP (q:=0) hp3).1 oJ
 ·rw[aB h5,aB h6] at oJ⊢
  rw[←hX] at oJ
  exact nG (d:=KR) (ρ:=[some (.int 2),some (.int pr),some (.int a1),some (.int a2),some (.lst (nv aW)),some (.int aE),none,none]) rfl rfl λφ=>φ rfl (gn h5) (hL _) rfl (hh _) rfl rfl rfl (k (q:=0)).1 (hS _) (kS (q:=0)).1 (hT _) (kT (q:=0)).1 (gn h6) (gn h5) (kP (q:=0) hp).1 oJ
theorem PN{pr:Nat}{a1 a2:Int}{S T aW:List Nat}{aE:Int}(n8:aW.length=8∨aW.length=12)(hS:∀σ,af P0 4 55 [.int a1,.int 16] σ=some (.lst (nv S),σ))(hT:∀σ,af P0 4 55 [.int a2,.int 16] σ=some (.lst (nv T),σ))(lS:S.length=16)(lT:T.length=16)
  (hb:∀b∈Bu aW.length pr S T (if aE=6∨aE=5 then aW.take 3 else aW),b<256)(σ:aa):
  af P0 5 60 [.int 10,.int pr,.int a1,.int a2,.lst (nv aW),.int aE] σ=some (.bytes (Bu aW.length pr S T (if aE=6∨aE=5 then aW.take 3 else aW)),σ):=by
 have hh:∀σ,af P0 4 55 [.int (aW.length:Int),.int 2] σ=some (.lst (nv (gW aW.length)),σ):=by
  intro σ
  rcases n8 with h|h
  ·rw[h];exact DU (p:=8) (by decide) σ
  ·rw[h];exact DU (p:=12) (by decide) σ
 have hp:aW.length≤12:=by omega
 have hp3:(aW.take 3).length≤12:=cV (List.length_take_le' ..) hp
 have hL:∀σ,dJ .len (.lst (nv aW)) σ=some (.int aW.length):=λσ=>(aC (cV (qd hp) (by decide))).trans (aj (λk:Nat=>some (V.int k)) (xV aW))
 have oJ:=zP hb (by simp[Bu,lS,lT];split<;>(try simp)<;>(first|exact cP [_] 1 (.add (.num 16) (.add (.num 16) vA)) (.num 92) [.l 1 vA (.num 12)] aI hp|lia)) σ
 have k:=zQ (a:=[.int 96,.int 0,.int 0,.int 0]++nv (gW aW.length)) (b:=[.int pr,.int 64]) (i:=6) (j:=2) (bS _) (bS _) rfl
 have kS:=zQ k.2 (qd (cG lS)) rfl
 have kT:=zQ kS.2 (qd (cG lT)) rfl
 have kP:∀{p:List Nat}(h:p.length≤12),_:=λ{p} h=>zQ kT.2 (qd h) rfl
 have hX:∀{p:List Nat},[V.int 96,.int 0,.int 0,.int 0]++nv (gW aW.length)++[.int pr,.int 64]++nv S++nv T++nv p=nv (Bu aW.length pr S T p):=
  λ{p}=>aj (λz=>nv (96::0::0::0::aW.length/256::aW.length%256::pr::[64])++z) (Vv S T p)
 by_cases h5:aE=5
 ·subst h5
  have oJ:dJ .bytes (.lst (nv (Bu aW.length pr S T (aW.take 3)))) σ=some (.bytes (Bu aW.length pr S T (aW.take 3))):=oJ
  rw[←hX] at oJ
  exact nG (d:=KR) (ρ:=[some (.int 10),some (.int pr),some (.int a1),some (.int a2),some (.lst (nv aW)),some (.int 5),none,none]) rfl rfl λφ=>φ rfl (hL _) (hh _) rfl k.1 (hS _) kS.1 (hT _) kT.1 rfl rfl rfl (MM hp) (kP hp3).1 oJ
 by_cases h6:aE=6
 ·subst h6
  have oJ:dJ .bytes (.lst (nv (Bu aW.length pr S T (aW.take 3)))) σ=some (.bytes (Bu aW.length pr S T (aW.take 3))):=oJ
  rw[←hX] at oJ
  exact nG (d:=KR) (ρ:=[some (.int 10),some (.int pr),some (.int a1),some (.int a2),some (.lst (nv aW)),some (.int 6),none,none]) rfl rfl λφ=>φ rfl (hL _) (hh _) rfl k.1 (hS _) kS.1 (hT _) kT.1 rfl (MM hp) (kP hp3).1 oJ
 ·rw[aB (not_or.mpr ⟨h6,h5⟩)] at oJ⊢
  rw[←hX] at oJ
  exact nG (d:=KR) (ρ:=[some (.int 10),some (.int pr),some (.int a1),some (.int a2),some (.lst (nv aW)),some (.int aE),none,none]) rfl rfl λφ=>φ rfl (hL _) (hh _) rfl k.1 (hS _) kS.1 (hT _) kT.1 (gn h6) (gn h5) (kP hp).1 oJ
end Mine.L
set_option maxHeartbeats 4000000
namespace Mine.L
noncomputable def jv(zone:Int)(ck:Bool)(ai proto a1 a2:Int):O:= .dict 2 [(.str 29,.int zone),(.str 122,.bool false),(.str 120,.bool false),(.str 121,.bool false),(.str 128,.bool ck),(.str 117,.tup [.int ai,.int proto,.int 0,.int 0]),(.str 118,.lst [.tup [.int a1,.int 0],.tup [.int a2,.int 0]])]
noncomputable def rH(ck:Bool)(q:Q):O:= .dict 2 [(.str 29,.int q.zone),(.str 122,.bool q.eE),(.str 120,.bool false),(.str 121,.bool false),(.str 128,.bool ck),(.str 117,q.what),(.str 118,q.ends),(.str 123,q.t),(.str 124,q.b)]
noncomputable def oY(zone ai proto a1 sp a2 dp:Int):Q:=⟨zone,ai,proto,0,0,a1,sp,a2,dp,dp,sp,false⟩
noncomputable def dU(f:Nat)(d:Int):Nat:=1000+f+(if d=3 then 10 else 0)
noncomputable def dW(f:Nat)(d:Int):Nat:=1000+f+(if d=2 then 10 else 0)
theorem qR{f:Nat}{d:Int}(h:f<3):dU f d∈[0,7,8,12,28,32,1000,1001,1002,1010,1011,1012]∧dU f d∈jL:=by
 have:=Ti f h
 unfold dU
 rcases this with rfl|rfl|rfl<;>split<;>decide
theorem qS{f:Nat}{d:Int}(h:f<3):dW f d∈[0,7,8,12,28,32,1000,1001,1002,1010,1011,1012]∧dW f d∈jL:=by
 have:=Ti f h
 unfold dW
 rcases this with rfl|rfl|rfl<;>split<;>decide
@[scoped simp] theorem PO(p:Nat):(gW p).length=2:=rfl
theorem Ju{s:Nat}{σ:aa}{zone ai a1 a2 cE:Int}{ck:Bool}{f1 f2:Nat}(h1:f1<3)(h2:f2<3)(hs:σ[s]? =some (jv zone ck ai 17 a1 a2)):
  af P0 5 59 [.loc s,.int cE,.tup [.int f1,.int f2]] σ=some (.lst (nv (gW (dU f1 (cE.fmod 4))++(gW (dW f2 (cE.fmod 4))++[0,12,0,0,1,2,3,4]))),σ.set s (rH ck (oY zone ai 17 a1 (dU f1 (cE.fmod 4)) a2 (dW f2 (cE.fmod 4))))):=by
 have is:=In.of hs
 have o1:=λσ=>DU (qR (d:=cE.fmod 4) h1).1 σ
 have o2:=λσ=>DU (qS (d:=cE.fmod 4) h2).1 σ
 have e5:nv (gW (dU f1 (cE.fmod 4))++(gW (dW f2 (cE.fmod 4))++[0,12,0,0,1,2,3,4]))=nv (gW (dU f1 (cE.fmod 4)))++nv (gW (dW f2 (cE.fmod 4)))++[.int 0,.int 12,.int 0,.int 0,.int 1,.int 2,.int 3,.int 4]:=by rw[xW,xW,List.append_assoc];rfl
 refine ay e5 (?_)
 by_cases h3:cE.fmod 4=3
 ·have e1:((dU f1 (cE.fmod 4):Nat):Int)=1000+f1+10:=by simp[dU,h3]
  have e2:((dW f2 (cE.fmod 4):Nat):Int)=1000+f2+0:=by simp[dW,h3]
  rw[e1] at o1⊢
  rw[e2] at o2⊢
  exact nG (d:=Nz) (ρ:=[some (.loc s),some (.int cE),some (.tup [.int f1,.int f2]),none,none,none,none,none]) rfl rfl λφ=>φ (bq hs rfl) rfl (bq hs rfl) rfl rfl (bq hs rfl) rfl rfl rfl rfl rfl rfl rfl (eqT h3) rfl rfl rfl rfl (gn (by exact λbT=>qq [_] [.f 1 vA (.num 3),.e 1 vA (.num 2)] aI h3 bT)) rfl (Be hs (aD rfl)) rfl (lY is (aD rfl)) rfl (lY is (aD rfl)) rfl rfl (o1 _) (o2 _) rfl rfl
 by_cases h2:cE.fmod 4=2
 ·have e1:((dU f1 (cE.fmod 4):Nat):Int)=1000+f1+0:=by simp[dU,h2]
  have e2:((dW f2 (cE.fmod 4):Nat):Int)=1000+f2+10:=by simp[dW,h2]
  rw[e1] at o1⊢
  rw[e2] at o2⊢
  exact nG (d:=Nz) (ρ:=[some (.loc s),some (.int cE),some (.tup [.int f1,.int f2]),none,none,none,none,none]) rfl rfl λφ=>φ (bq hs rfl) rfl (bq hs rfl) rfl rfl (bq hs rfl) rfl rfl rfl rfl rfl rfl rfl (gn h3) rfl rfl rfl rfl (eqT h2) rfl (Be hs (aD rfl)) rfl (lY is (aD rfl)) rfl (lY is (aD rfl)) rfl rfl (o1 _) (o2 _) rfl rfl
 ·have e1:((dU f1 (cE.fmod 4):Nat):Int)=1000+f1+0:=by simp[dU,h3]
  have e2:((dW f2 (cE.fmod 4):Nat):Int)=1000+f2+0:=by simp[dW,h2]
  rw[e1] at o1⊢
  rw[e2] at o2⊢
  exact nG (d:=Nz) (ρ:=[some (.loc s),some (.int cE),some (.tup [.int f1,.int f2]),none,none,none,none,none]) rfl rfl λφ=>φ (bq hs rfl) rfl (bq hs rfl) rfl rfl (bq hs rfl) rfl rfl rfl rfl rfl rfl rfl (gn h3) rfl rfl rfl rfl (gn h2) rfl (Be hs (aD rfl)) rfl (lY is (aD rfl)) rfl (lY is (aD rfl)) rfl rfl (o1 _) (o2 _) rfl rfl
noncomputable def Bv:List Nat:=[0,0,8,0,69,1,2,3]
theorem Jv{s:Nat}{σ:aa}{zone ai a1 a2 cE:Int}{ck:Bool}{many:V}(hs:σ[s]? =some (jv zone ck ai 47 a1 a2)):
  af P0 5 59 [.loc s,.int cE,many] σ=some (.lst (nv Bv),σ.set s (rH ck (oY zone ai 47 a1 0 a2 0))):=by
 have is:=In.of hs
 simp only[jv] at hs
 simp only[rH,oY,Q.what,Q.ends,Q.t,Q.b]
 exact nG (d:=Nz) (ρ:=[some (.loc s),some (.int cE),some many,none,none,none,none,none]) rfl rfl λt=>t (bq hs rfl) rfl (bq hs rfl) rfl rfl (bq hs rfl) rfl rfl rfl rfl (Be hs (aD rfl)) rfl (lY is (aD rfl)) rfl (lY is (aD rfl)) rfl rfl
noncomputable def DW(ai:Int):Nat:=if ai=2 then 4 else 2
noncomputable def prs(ai:Int):List V:=if ai=2 then [.tup [.int 8,.int 0],.tup [.int 13,.int 14],.tup [.int 15,.int 16],.tup [.int 17,.int 18]] else [.tup [.int 128,.int 129],.tup [.int 128,.int 129]]
theorem Co(ai:Int)(σ:aa):dJ .len (.lst (prs ai)) σ=some (.int (DW ai)):=by
 unfold prs DW;split<;>rfl
theorem YJ(n:Nat)(ai:Int)(σ:aa):af P0 (n+1) 57 [.int ai] σ=some (.lst (prs ai),σ):=by
 by_cases h:ai=2
 ·subst h;exact nG (d:=Rf) (ρ:=[some (.int 2)]) rfl rfl λφ=>φ rfl
 ·rw[show prs ai=[.tup [.int 128,.int 129],.tup [.int 128,.int 129]] from aB h];exact nG (d:=Rf) (ρ:=[some (.int ai)]) rfl rfl λφ=>φ (gn h)
noncomputable def fD(cE:Int):Nat:=if cE.fmod 4=3 then 8 else 7
noncomputable def je(ai:Int)(p:Nat):Nat:=if ai=2 then(if p=0 then 8 else if p=1 then 13 else if p=2 then 15 else 17) else 128
noncomputable def rS(ai:Int)(p:Nat):Nat:=if ai=2 then(if p=0 then 0 else if p=1 then 14 else if p=2 then 16 else 18) else 129
noncomputable def qe(ai:Int)(p code bu:Nat)(eE:Bool):List Nat:=[if eE then rS ai p else je ai p,code,0,0,0,bu,0,1]
theorem Hj{ai:Int}{p:Nat}(h:p<DW ai)(σ:aa):cH (.lst (prs ai)) (.int p) σ=some (.tup [.int (je ai p),.int (rS ai p)]):=by
 by_cases hf:ai=2
 ·subst hf
  rcases YH p h with rfl|rfl|rfl|rfl<;>rfl
 ·replace h:=(show DW ai=2 from aB hf)▸h
  refine(show prs ai=[.tup [.int 128,.int 129],.tup [.int 128,.int 129]] from aB hf)▸(show je ai p=128 from aB hf)▸(show rS ai p=129 from aB hf)▸ ?_
  rcases Vr p h with rfl|rfl<;>rfl
noncomputable def To:List MS:=Up.drop 7
noncomputable def qf(zone:Int)(ck:Bool)(ai proto a1 a2 bu:Int):O:= .dict 2 [(.str 29,.int zone),(.str 122,.bool false),(.str 120,.bool false),(.str 121,.bool false),(.str 128,.bool ck),(.str 117,.tup [.int ai,.int proto,.int 0,.int 0]),(.str 118,.lst [.tup [.int a1,.int bu],.tup [.int a2,.int bu]])]
noncomputable def j0(ai:Int)(code:Nat):Nat:=if ai=2 then(if code=0 then 9 else 3) else(if code=0 then 135 else 1)
noncomputable def r6(ai:Int)(code bu:Nat):List Nat:=[j0 ai code,0,0,0,0,bu,0,1]
noncomputable def Cp(zone:Int)(ck near:Bool)(ai proto a1 a2 bu:Int):O:= .dict 2 [(.str 29,.int zone),(.str 122,.bool false),(.str 120,.bool true),(.str 121,.bool near),(.str 128,.bool ck),(.str 117,.tup [.int ai,.int proto,.int 0,.int 0]),(.str 118,.lst [.tup [.int a1,.int bu],.tup [.int a2,.int bu]])]
section
variable (call:Call) {s:Nat} {σ:aa} {zone ai proto a1 a2 d:Int} {ck eE:Bool}
theorem YK{id:Int}{np:Int}{pl:List V}{code:Nat}(hf:ai=2∨ai=10)(hc:code=0∨code=1)(hL:∀σ,dJ .len (.lst pl) σ=some (.int np))(hs:σ[s]? =some (qf zone ck ai proto a1 a2 id)):
  aP call [some (.loc s),some (.int d),some (.bool eE),some (.int ai),some (.int a1),some (.int a2),some (.int id),some (.lst pl),some (.int np),some (.int code),none,none,none,none] To σ=
   some (.ret (.lst [.int (j0 ai code),.int 0,.int 0,.int 0,.int 0,.int id,.int 0,.int 1]),[some (.loc s),some (.int d),some (.bool eE),some (.int ai),some (.int a1),some (.int a2),some (.int id),some (.lst pl),some (.int np),some (.int code),some (.int (j0 ai code)),none,none,none],σ.set s (Cp zone ck (decide (j0 ai code=135)) ai proto a1 a2 id)):=by
 rcases hf with rfl|rfl<;>rcases hc with rfl|rfl<;>exact nH λφ=>φ (hL _) (eqT rfl) (Be hs (aD rfl)) rfl rfl rfl (lY (In.of hs) (aD rfl))
theorem ep{id np pair:Int}{pl:List V}{code ask answer:Int}(hnp:¬pair=np)(hL:∀σ,dJ .len (.lst pl) σ=some (.int np))(hI:∀σ,cH (.lst pl) (.int pair) σ=some (.tup [.int ask,.int answer]))(h1:gY ask=true)(h2:gY answer=true)(hs:σ[s]? =some (qf zone ck ai proto a1 a2 id)):
  aP call [some (.loc s),some (.int d),some (.bool eE),some (.int ai),some (.int a1),some (.int a2),some (.int id),some (.lst pl),some (.int pair),some (.int code),none,none,none,none] To σ=
   some (.ret (.lst [.int (if eE then answer else ask),.int code,.int 0,.int 0,.int 0,.int id,.int 0,.int 1]),[some (.loc s),some (.int d),some (.bool eE),some (.int ai),some (.int a1),some (.int a2),some (.int id),some (.lst pl),some (.int pair),some (.int code),none,some (.int ask),some (.int answer),some (.tup [.int ai,.int proto])],
   σ.set s (rH ck ⟨zone,ai,proto,ask,code,a1,id,a2,id,256*ask+code,256*answer+code,eE⟩)):=by
 have js:=In.of hs
 have m1:=mulQ (a:=256) rfl h1
 have m2:=mulQ (a:=256) rfl h2
 cases eE<;>exact nH λφ=>φ (hL _) (gn hnp) (Be hs (aD rfl)) (hI _) (bq (ja js) rfl) rfl rfl (lY js (aD rfl)) m1 rfl rfl (lY js (aD rfl)) m2 rfl rfl (lY js (aD rfl))
theorem modQ{a b:Int}(h:b≠0):jq .mod (.int a) (.int b)=some (.int (a.fmod b)):=aj (Option.map V.int) (aC h)
theorem zR{v:V}{ρ':Env}{τ:aa}(hs:σ[s]? =some (jv zone ck ai proto a1 a2))
  (h:aP (af P0 4) [some (.loc s),some (.int d),some (.bool eE),some (.int ai),some (.int a1),some (.int a2),some (.int (fD d)),some (.lst (prs ai)),some (.int ((d.fdiv 4).fmod ((DW ai:Nat)+1))),some (.int ((d.fdiv 20).fmod 2)),none,none,none,none] To (σ.set s (qf zone ck ai proto a1 a2 (fD d)))=some (.ret v,ρ',τ)):
  af P0 5 58 [.loc s,.int d,.bool eE] σ=some (v,τ):=by
 have hm:=modQ (a:=d.fdiv 4) (b:=(DW ai:Nat)+1) (Int.ne_of_gt (Int.lt_add_one_of_le (fF _)))
 have hL:=Co ai
 have e:=YJ 3 ai
 by_cases h3:d.fmod 4=3
 ·have hi:fD d=8:=aC h3
  rw[hi] at h
  exact IS (d:=Rg) (ρ:=[some (.loc s),some (.int d),some (.bool eE),none,none,none,none,none,none,none,none,none,none,none]) 7 rfl rfl λφ=>φ (bq hs rfl) rfl (bq hs rfl) rfl rfl (bq hs rfl) rfl rfl rfl (eqT h3) (e _) rfl (hL _) rfl hm rfl rfl (Be hs (aD rfl)) h
 ·have hi:fD d=7:=aB h3
  rw[hi] at h
  exact IS (d:=Rg) (ρ:=[some (.loc s),some (.int d),some (.bool eE),none,none,none,none,none,none,none,none,none,none,none]) 7 rfl rfl λφ=>φ (bq hs rfl) rfl (bq hs rfl) rfl rfl (bq hs rfl) rfl rfl rfl (gn h3) (e _) rfl (hL _) rfl hm rfl rfl (Be hs (aD rfl)) h
end
theorem jy(x:Int)(n:Nat)(hn:0<n):∃p:Nat,p<n∧x.fmod n=p:=by
 have h0:x.fmod n=x%n:=Int.fmod_eq_emod_of_nonneg _ (fF _)
 have h1:=Int.emod_nonneg x (b:=(n:Int)) (by exact λbT=>qq [_] [.e 1 vA (.num 0),.s 1 (.num 0) vA] aI bT (Int.ofNat_lt.mpr hn))
 have h2:=Int.emod_lt_of_pos x (b:=(n:Int)) (Int.ofNat_lt.mpr ‹_›)
 exact⟨(x%n).toNat,by exact Int.ofNat_lt.mp ((Int.lt_of_le_of_lt (Int.le_of_eq (Int.toNat_of_nonneg (h1))) h2)),by exact Int.le_antisymm ((Int.le_trans (Int.le_of_eq h0) (Int.self_le_toNat _))) ((Int.le_of_eq (Eq.trans (Int.toNat_of_nonneg (h1)) (Eq.symm h0))))⟩
theorem xX(ai:Int)(p:Nat):je ai p≤128:=by
 unfold je
 split<;>(try split)<;>(try split)<;>(try split)<;>decide
theorem xY(ai:Int)(p:Nat):rS ai p≤129:=by
 unfold rS
 split<;>(try split)<;>(try split)<;>(try split)<;>decide
theorem YL{s:Nat}{σ:aa}{zone ai proto a1 a2 d:Int}{ck eE:Bool}(hf:ai=2∨ai=10)(hs:σ[s]? =some (jv zone ck ai proto a1 a2)):
  (∃code:Nat,(code=0∨code=1)∧af P0 5 58 [.loc s,.int d,.bool eE] σ=some (.lst (nv (r6 ai code (fD d))),σ.set s (Cp zone ck (decide (j0 ai code=135)) ai proto a1 a2 (fD d))))∨
  ∃(code p:Nat),(code=0∨code=1)∧p<DW ai∧af P0 5 58 [.loc s,.int d,.bool eE] σ=some (.lst (nv (qe ai p code (fD d) eE)),σ.set s (rH ck ⟨zone,ai,proto,je ai p,code,a1,fD d,a2,fD d,256*je ai p+code,256*rS ai p+code,eE⟩)):=by
 refine aA (jy (d.fdiv 20) 2 (Nat.le_succ _)) λcode c1 c2=>?_
 refine aA (jy (d.fdiv 4) (DW ai+1) (Nat.succ_pos _)) λp p1 p2=>?_
 have c3:=Vr code c1
 have p3:(d.fdiv 4).fmod ((DW ai:Nat)+1)=p:=p2
 have c4:(d.fdiv 20).fmod 2=code:=c2
 have hs2:(σ.set s (qf zone ck ai proto a1 a2 (fD d)))[s]? =some (qf zone ck ai proto a1 a2 (fD d)):=ja (In.of hs)
 have hL:=Co ai
 by_cases hp:p=DW ai
 ·refine .inl ⟨code,c3,?_⟩
  have h:=YK (af P0 4) (d:=d) (eE:=eE) hf c3 hL hs2
  rw[←hp,←p3,←c4,List.set_set] at h
  exact zR hs h
 ·refine .inr ⟨code,p,c3,Nat.lt_of_le_of_ne (Nat.le_of_lt_succ p1) hp,?_⟩
  have h:=ep (af P0 4) (d:=d) (eE:=eE) (pair:=(p:Int)) (code:=(code:Int)) (λz=>hp (Int.ofNat.inj z)) hL (λσ=>Hj (ai:=ai) (p:=p) (Nat.lt_of_le_of_ne (Nat.le_of_lt_succ p1) hp) σ) (p8 (fF _) (gh (cV (xX ai p) (by decide)))) (p8 (fF _) (gh (cV (xY ai p) (by decide)))) hs2
  rw[←p3,←c4,List.set_set] at h
  have e:=zR hs h
  clear h
  rw[c4] at e
  cases eE<;>exact e
noncomputable def sc(script:List Int):V:= .lst (script.map .int)
noncomputable def dig(script:List Int)(j:Nat):Int:=(script[j]?).getD 0
theorem MN{script:List Int}(hl:script.length≤63)(σ:aa):dJ .len (sc script) σ=some (.int script.length):=by
 unfold sc dJ
 simp only[List.length_map,aC (cV ‹_› (aD rfl):script.length≤100000)]
theorem Jw{script:List Int}{j:Nat}(h:j<script.length)(hj:j<1000)(σ:aa):cH (sc script) (.int j) σ=some (.int (dig script j)):=by
 unfold sc cH
 simp only[(by unfold gE;rw[aC (by lia),Int.toNat_natCast]:gE (j:Int)=some j),Option.bind_some,List.getElem?_map,dig,iw h,Option.map_some,Option.getD_some]
theorem Tq(n:Nat){S:V}{J L x:Int}{σ:aa}(hL:dJ .len S σ=some (.int L))(hI:J<L→cH S (.int J) σ=some (.int x))(h3:¬J<L→x=0):af P0 (n+1) 54 [S,.int J] σ=some (.int x,σ):=by
 by_cases h:J<L
 ·have hI':=hI h
  exact nG (d:=Rc) rfl rfl λt=>t hL (Mp h) (hI h)
 ·refine ay (h3 h) ?_
  exact nG (d:=Rc) rfl rfl λt=>t hL (Eb h)
theorem Nm(n:Nat){script:List Int}{j:Nat}(hl:script.length≤63)(hj:j<1000)(σ:aa):af P0 (n+1) 54 [sc script,.int j] σ=some (.int (dig script j),σ):=
 Tq n (MN hl σ) (λh=>Jw (by exact Int.ofNat_lt.mp (h)) hj σ) λh=>by
  have:script.length≤j:=by exact Int.ofNat_le.mp (Int.not_lt.mp h)
  simp[dig,List.getElem?_eq_none this]
noncomputable abbrev YM(a b c d e f g h:Int):ME:= .lst [.lit (.int a),.lit (.int b),.lit (.int c),.lit (.int d),.lit (.int e),.lit (.int f),.lit (.int g),.lit (.int h)]
theorem Cq(a b c d e f g h:Int){k:Nat}(hk:k<8)(σ:aa):∃x,cH (.lst [.int a,.int b,.int c,.int d,.int e,.int f,.int g,.int h]) (.int k) σ=some (.int x):=by
 have:=Vs k hk
 rcases this with rfl|rfl|rfl|rfl|rfl|rfl|rfl|rfl
 ·exact⟨a,rfl⟩
 ·exact⟨b,rfl⟩
 ·exact⟨c,rfl⟩
 ·exact⟨d,rfl⟩
 ·exact⟨e,rfl⟩
 ·exact⟨f,rfl⟩
 ·exact⟨g,rfl⟩
 ·exact⟨h,rfl⟩
noncomputable def gK(s:Nat):Int:=if s=2∨s=3 then 10 else 2
noncomputable def iK(s:Nat):Nat:=if s=1 then 1 else if s=3 then 58 else if s=4 then 47 else 17
theorem DZ{s:Nat}(hs:s<6)(σ:aa):cH (.lst [.tup [.int 2,.int 17],.tup [.int 2,.int 1],.tup [.int 10,.int 17],.tup [.int 10,.int 58],.tup [.int 2,.int 47],.tup [.int 2,.int 17]]) (.int s) σ=some (.tup [.int (gK s),.int (iK s)]):=by
 have:=YI s hs
 rcases this with rfl|rfl|rfl|rfl|rfl|rfl<;>rfl
noncomputable def xZ(d3:Int):Int:=if d3.fmod 4=3 then 1 else 0
noncomputable def brk(aE:Int)(pr:Int):Bool:=decide (aE=5)||(decide (aE=6)&& !decide (pr=47))
section
variable {call:Call} {S:V} {at' k:Int} {σ τ:aa} {e0 e1 e2 e3 e4 e5 e6 e7 e8 e9 fE fX dX dM:Option V}
theorem r7{call:Call}{ρ:Env}{m:MS}{σ:aa}{r:Option (Fl × Env × aa)}(k:NS call ρ m σ (λf ρ' τ=>kH call ρ m σ=some (f,ρ',τ))→kH call ρ m σ=r):kH call ρ m σ=r:=k (ns call ρ m σ _ λ_ _ _ h=>h)
theorem q7{d3:Int}(h3:call 54 [S,.int (at'+3)] σ=some (.int d3,σ)):kH call [some S,some (.int at'),e2,e3,e4,e5,e6,e7,e8,e9,fE,fX,dX,dM] (.assign 10 (.dict [(.lit (.str 29)),(.ite (.cmp (.bin .mod (.call (.glob 127 (.fn 54)) [(.var 0),(.bin .add (.var 1) (.lit (.int 3)))]) (.lit (.int 4))) .eq (.lit (.int 3))) (.lit (.int 1)) (.lit (.int 0))),(.lit (.str 122)),(.lit (.bool false))])) σ=some (.next,[some S,some (.int at'),e2,e3,e4,e5,e6,e7,e8,e9,some (.loc σ.length),fX,dX,dM],σ++[.dict 2 [(.str 29,.int (xZ d3)),(.str 122,.bool false)]]):=by
 by_cases h:d3.fmod 4=3
 ·rw[show xZ d3=1 from aC h];exact r7 λφ=>φ rfl h3 rfl (eqT h) rfl
 ·rw[show xZ d3=0 from aB h];exact r7 λφ=>φ rfl h3 rfl (gn h) rfl
theorem YN{i j:Int}:cX .ne (.int i) (.int j) σ=some (!decide (i=j)):=aj (λb=>some (!b)) (decide_eq_decide.mpr ⟨V.int.inj,aj V.int⟩)
theorem q8{aE pr:Int}{es:List (V × V)}(hl:es.length<1000):kH call [e0,e1,e2,e3,e4,some (.int pr),e6,e7,e8,some (.int aE),some (.loc σ.length),fX,dX,dM] (.aS (.var 10) (.lit (.str 128)) (.or [(.cmp (.var 9) .eq (.lit (.int 5))),(.and [(.cmp (.var 9) .eq (.lit (.int 6))),(.cmp (.var 5) .ne (.lit (.int 47)))])])) (σ++[.dict 2 es])=some (.next,[e0,e1,e2,e3,e4,some (.int pr),e6,e7,e8,some (.int aE),some (.loc σ.length),fX,dX,dM],σ++[.dict 2 (cA es (.str 128) (.bool (brk aE pr)))]):=by
 by_cases h5:aE=5
 ·refine ay h5 ?_
  exact r7 λφ=>φ rfl (uH rfl hl)
 by_cases h6:aE=6
 ·refine ay h6 ?_
  exact r7 λφ=>φ rfl rfl YN (uH rfl hl)
 ·refine ay (show brk aE pr=false by simp[brk,h5,h6]) ?_
  exact r7 λφ=>φ (gn h5) (gn h6) (uH rfl hl)
noncomputable abbrev Tr:MS:= .ite (.cmp (.var 3) .isin (.lst [(.lit (.int 1)),(.lit (.int 3))])) [.assign 13 (.call (.glob 130 (.fn 58)) [(.var 10),(.call (.glob 127 (.fn 54)) [(.var 0),(.bin .add (.var 1) (.lit (.int 2)))]),(.cmp (.cmp (.var 2) .eq (.lit (.int 4))) .ne (.cmp (.bin .mod (.bin .fdiv (.var 6) (.lit (.int 6))) (.lit (.int 2))) .eq (.lit (.int 1))))])] [.assign 13 (.call (.glob 131 (.fn 59)) [(.var 10),(.call (.glob 127 (.fn 54)) [(.var 0),(.bin .add (.var 1) (.lit (.int 2)))]),(.tup [(.var 7),(.var 8)])])]
noncomputable abbrev QX:MS:= .ret (.tup [(.var 10),(.var 9),(.call (.glob 132 (.fn 60)) [(.var 4),(.var 5),(.var 11),(.var 12),(.var 13),(.var 9)])])
noncomputable def PR(k who:Int):Bool:= !decide (decide (V.int k=V.int 4)=decide (V.int ((who.fdiv 6).fmod 2)=V.int 1))
theorem QA{sort who d2:Int}{L v:V}(hs:sort=1∨sort=3)(h2:call 54 [S,.int (at'+2)] σ=some (.int d2,σ))(YO:call 58 [L,.int d2,.bool (PR k who)] σ=some (v,τ)):
  kH call [some S,some (.int at'),some (.int k),some (.int sort),e4,e5,some (.int who),e7,e8,e9,some L,fX,dX,dM] Tr σ=some (.next,[some S,some (.int at'),some (.int k),some (.int sort),e4,e5,some (.int who),e7,e8,e9,some L,fX,dX,some v],τ):=by
 rcases hs with rfl|rfl<;>exact r7 λφ=>φ rfl rfl h2 rfl rfl rfl rfl rfl YO
theorem Vw{sort d2 x y:Int}{L v:V}(hs:sort≠1∧sort≠3)(h2:call 54 [S,.int (at'+2)] σ=some (.int d2,σ))(YQ:call 59 [L,.int d2,.tup [.int x,.int y]] σ=some (v,τ)):
  kH call [some S,some (.int at'),e2,some (.int sort),e4,e5,e6,some (.int x),some (.int y),e9,some L,fX,dX,dM] Tr σ=some (.next,[some S,some (.int at'),e2,some (.int sort),e4,e5,e6,some (.int x),some (.int y),e9,some L,fX,dX,some v],τ):=by
 have hm:cX .isin (.int sort) (.lst [.int 1,.int 3]) σ=some false:=aj some (gM λh=>by
  rcases eH h with h|h
  ·exact hs.1 (V.int.inj h)
  ·exact hs.2 (V.int.inj (List.mem_singleton.mp h)))
 exact r7 λφ=>φ hm rfl h2 YQ
end
noncomputable def jO(ai:Int)(pr e1 e2:Nat)(aW:List Nat)(aE:Int):List Nat:=
 if ai=2 then Ck (20+aW.length) (if aE=5 then 185 else 0) pr (cy 2 e1) (cy 2 e2) (if aE=6 then aW.take 3 else aW)
 else Bu aW.length pr (cy 10 e1) (cy 10 e2) (if aE=6∨aE=5 then aW.take 3 else aW)
inductive Kd(zone ai:Int)(pr e1 e2:Nat)(br:Bool):List Nat→O→Prop
 |PS (d:Int):pr=17→(ai=2∨ai=10)→Kd zone ai pr e1 e2 br (gW (dU e1 d)++(gW (dW e2 d)++[0,12,0,0,1,2,3,4])) (rH br (oY zone ai 17 (cD ai e1) (dU e1 d) (cD ai e2) (dW e2 d)))
 |PT:pr=47→ai=2→Kd zone ai pr e1 e2 br Bv (rH br (oY zone ai 47 (cD ai e1) 0 (cD ai e2) 0))
 |lone (code bu:Nat):((ai=2∧pr=1)∨(ai=10∧pr=58))→(code=0∨code=1)→(bu=7∨bu=8)→Kd zone ai pr e1 e2 br (r6 ai code bu) (Cp zone br (decide (j0 ai code=135)) ai pr (cD ai e1) (cD ai e2) bu)
 |Hl (p code bu:Nat) (eE:Bool):((ai=2∧pr=1)∨(ai=10∧pr=58))→(code=0∨code=1)→(bu=7∨bu=8)→p<DW ai→Kd zone ai pr e1 e2 br (qe ai p code bu eE) (rH br ⟨zone,ai,pr,je ai p,code,cD ai e1,bu,cD ai e2,bu,256*je ai p+code,256*rS ai p+code,eE⟩)
noncomputable def Tt(ai:Int)(pr:Nat):Prop:=(pr=17∧(ai=2∨ai=10))∨(pr=47∧ai=2)∨((ai=2∧pr=1)∨(ai=10∧pr=58))
theorem Kd.pf{zone ai:Int}{pr e1 e2:Nat}{br:Bool}{aW:List Nat}{so:O}(h:Kd zone ai pr e1 e2 br aW so):Tt ai pr:=by
 induction h with
 |PS d h3 h4=>exact .inl ⟨h3,h4⟩
 |PT h3 h4=>exact .inr (.inl ⟨h3,h4⟩)
 |lone code bu h3 h4 h5=>exact .inr (.inr h3)
 |Hl p code bu eE h3 h4 h5 h6=>exact .inr (.inr h3)
noncomputable def AB(l:List Nat):Prop:=∀b∈l,b<256
theorem uW{a b n:Nat}(h:a=b)(k:b<n):a<n:=Nat.lt_of_le_of_lt (cG h) k
theorem AB.c{b:Nat}{l:List Nat}(h:b<256)(t:AB l):AB (b::l):=List.forall_mem_cons.mpr ⟨h,t⟩
theorem AB.a{l m:List Nat}(h:AB l)(t:AB m):AB (l++m):=List.forall_mem_append.mpr ⟨h,t⟩
theorem AB.z{l:List Nat}(t:AB l):AB (0::l):=t.c (by decide)
theorem AB.n:AB []:=nofun
theorem AB.t{p:Nat}{l:List Nat}(h:p<65536)(t:AB l):AB (p/256::p%256::l):= .c (Nat.div_lt_of_lt_mul h) (.c (Nat.mod_lt _ (by decide)) t)
theorem Cr{p:Nat}(h:p∈jL):p<65536:=(by decide:∀x∈jL,x<65536) p h
theorem zS{ai:Int}{code:Nat}:j0 ai code<256:=by
 unfold j0;split<;>split<;>exact aD rfl
theorem AB.ic{k c i:Nat}(hk:k<256)(hc:c=0∨c=1)(hi:i=7∨i=8):AB [k,c,0,0,0,i,0,1]:=
 .c hk (.c (hc.elim (λh=>uW h (by decide)) λh=>uW h (by decide)) (.z (.z (.z (.c (hi.elim (λh=>uW h (by decide)) λh=>uW h (by decide)) (.z (.c (by decide) .n)))))))
theorem Kd.ab{zone ai:Int}{pr e1 e2:Nat}{br:Bool}{aW:List Nat}{so:O}(h1:e1<3)(h2:e2<3)(h:Kd zone ai pr e1 e2 br aW so):(aW.length=8∨aW.length=12)∧AB aW:=by
 induction h with
 |PS d h3 h4=>exact⟨.inr rfl,.t (Cr (qR h1).2) (.t (Cr (qS h2).2) (by decide:∀b∈[0,12,0,0,1,2,3,4],b<256))⟩
 |PT h1 h2=>exact⟨.inl rfl,(by decide:∀b∈Bv,b<256)⟩
 |lone code bu h1 h2 h3=>exact⟨.inl rfl,AB.ic zS (.inl rfl) h3⟩
 |Hl p code bu eE h1 h2 h3 h4=>
  refine⟨.inl rfl,.ic ?_ h2 h3⟩
  cases eE
  ·exact Nat.lt_of_le_of_lt (xX ai p) (by decide)
  ·exact Nat.lt_of_le_of_lt (xY ai p) (by decide)
theorem Tt.Bw{ai:Int}{pr:Nat}(h:Tt ai pr):(ai=2∨ai=10)∧(ai=10→pr=17∨pr=58)∧pr<256:=
 h.elim (λh=>⟨h.2,λ_=> .inl h.1,uW h.1 (by decide)⟩) λh=>h.elim (λh=>⟨.inl h.2,λe=>absurd (h.2.symm.trans e) (by decide),uW h.1 (by decide)⟩) λh=>h.elim (λh=>⟨.inl h.1,λe=>absurd (h.1.symm.trans e) (by decide),uW h.2 (by decide)⟩) λh=>⟨.inr h.1,λ_=> .inr h.2,uW h.2 (by decide)⟩
theorem Kd.Bw{zone ai:Int}{pr e1 e2:Nat}{br:Bool}{aW:List Nat}{so:O}(h1:e1<3)(h2:e2<3)(h:Kd zone ai pr e1 e2 br aW so):(ai=2∨ai=10)∧(ai=10→pr=17∨pr=58)∧pr<256∧(aW.length=8∨aW.length=12)∧∀b∈aW,b<256:=
 ⟨h.pf.Bw.1,h.pf.Bw.2.1,h.pf.Bw.2.2,h.ab h1 h2⟩
theorem AB.i{c:Prop} [Decidable c]{l:List Nat}(h:AB l):AB (if c then l.take 3 else l):=by
 split
 ·exact λb hb=>h b (List.mem_of_mem_take hb)
 ·exact h
theorem MO{zone ai:Int}{pr e1 e2:Nat}{br:Bool}{aW:List Nat}{so:O}{aE:Int}(h1:e1<3)(h2:e2<3)(h:Kd zone ai pr e1 e2 br aW so)(σ:aa):
  af P0 5 60 [.int ai,.int pr,.int (cD ai e1),.int (cD ai e2),.lst (nv aW),.int aE] σ=some (.bytes (jO ai pr e1 e2 aW aE),σ):=by
 refine CG (h.Bw h1 h2) λf1 f2 f3 f4 f5=>?_
 have len:∀k,k≤20→k+aW.length<65536:=λk hk=>f4.elim (λh=>uW (aj (k+ ·) h) <| Nat.lt_of_le_of_lt (Nat.add_le_add_right hk 8) (by decide)) λh=>uW (aj (k+ ·) h) <| Nat.lt_of_le_of_lt (Nat.add_le_add_right hk 12) (by decide)
 rcases f1 with rfl|rfl
 ·exact PM f4 (λσ=>KG h1 σ) (λσ=>KG h2 σ) rfl rfl (AB.c (by decide) (.z (.t (len 20 (bS _)) (.z (.c (by decide) (.t (by split<;>decide) (.c (by decide) (.c f3 (.z (.z (.a (qc h1) (.a (qc h2) (.i f5))))))))))))) σ
 ·exact PN f4 (λσ=>KH h1 σ) (λσ=>KH h2 σ) rfl rfl (AB.c (by decide) (.z (.z (.z (.t (Nat.zero_add aW.length▸len 0 (by decide)) (.c f3 (.c (by decide) (.a (qc h1) (.a (qc h2) (.i f5)))))))))) σ
theorem x6(x y:Int):∃a b:Nat,a<3∧b<3∧a≠b∧x.fmod 3=a∧(x.fmod 3+1+y.fmod 2).fmod 3=b:=by
 refine aA (jy x 3 (aD rfl)) λa a1 a2=>?_
 refine aA (jy y 2 (aD rfl)) λc c1 c2=>?_
 refine aA (jy (x.fmod 3+1+y.fmod 2) 3 (aD rfl)) λb b1 b2=>?_
 have a3:x.fmod 3=a:=a2
 have b3:(x.fmod 3+1+y.fmod 2).fmod 3=b:=b2
 have c3:y.fmod 2=c:=c2
 refine⟨a,b,a1,b1,?_,a3,b3⟩
 rw[a3,c3,(Int.fmod_eq_emod_of_nonneg _ (fF _):((a:Int)+1+c).fmod 3=((a:Int)+1+c)%3)] at b3
 omega
theorem zT(d:Int):fD d=7∨fD d=8:=by unfold fD;split<;>lia
structure Sn(so:O)(ai:Int)(pr e1 e2:Nat)(aW:List Nat)(aE zone:Int):Prop where
 h1:e1<3
 h2:e2<3
 ne:e1≠e2
 kd:Kd zone ai pr e1 e2 (brk aE pr) aW so
theorem Tu{S:V}{a k:Nat}{x0 x1 x2 x3:Int}(hk:k<8)(d0:∀σ,af P0 5 54 [S,.int a] σ=some (.int x0,σ))(d1:∀σ,af P0 5 54 [S,.int (a+1)] σ=some (.int x1,σ))(d2:∀σ,af P0 5 54 [S,.int (a+2)] σ=some (.int x2,σ))(d3:∀σ,af P0 5 54 [S,.int (a+3)] σ=some (.int x3,σ))(σ:aa):
  ∃so ai pr e1 e2 aW aE zone,Sn so ai pr e1 e2 aW aE zone∧af P0 6 61 [S,.int a,.int k] σ=some (.tup [.loc σ.length,.int aE,.bytes (jO ai pr e1 e2 aW aE)],σ++[so]):=by
 refine dY λG hG=>?_
 obtain⟨t0,i0⟩:=Cq 0 0 0 1 1 1 0 0 hk σ
 obtain⟨t1,i1⟩:=Cq 0 1 0 0 2 0 2 0 hk σ
 obtain⟨t2,i2⟩:=Cq 0 1 0 1 0 1 1 0 hk σ
 clear hk
 obtain⟨s,s1,s2⟩:=jy (t0+x0) 6 (aD rfl)
 have s3:(t0+x0).fmod 6=s:=s2
 clear s2
 obtain⟨e1,e2,g1,g2,g3,g4,g5⟩:=x6 (t1+x1) (t2+x1.fdiv 3)
 refine hG ?_
 have ff:gK s=2∨gK s=10:=by unfold gK;split<;>omega
 have YR:=λσ=>Vt (e:=e1) ff g1 σ
 have YS:=λσ=>Vt (e:=e2) ff g2 σ
 refine bK (⟨_,rfl⟩:∃f,(x3.fdiv 16).fmod 8=f) λaE hfl=>?_
 refine bK (⟨_,rfl⟩:∃z,xZ x3=z) λzone hz=>?_
 have j9:(σ++[jv zone (brk aE (iK s)) (gK s) (iK s) (cD (gK s) e1) (cD (gK s) e2)])[σ.length]? =some (jv zone (brk aE (iK s)) (gK s) (iK s) (cD (gK s) e1) (cD (gK s) e2)):=by simp
 have Tv:∃so aW,Kd zone (gK s) (iK s) e1 e2 (brk aE (iK s)) aW so∧∀{E4 E5 E9 Vx Vy YT:Option V},kH (af P0 5) [some S,some (.int a),some (.int k),some (.int s),E4,E5,some (.int x1),some (.int e1),some (.int e2),E9,some (.loc σ.length),Vx,Vy,YT] Tr (σ++[jv zone (brk aE (iK s)) (gK s) (iK s) (cD (gK s) e1) (cD (gK s) e2)])=some (.next,[some S,some (.int a),some (.int k),some (.int s),E4,E5,some (.int x1),some (.int e1),some (.int e2),E9,some (.loc σ.length),Vx,Vy,some (.lst (nv aW))],σ++[so]):=by
  by_cases hs:s=1∨s=3
  ·have hic:(gK s=2∧iK s=1)∨(gK s=10∧iK s=58):=by
    rcases hs with rfl|rfl
    ·exact .inl ⟨rfl,rfl⟩
    ·exact .inr ⟨rfl,rfl⟩
   rcases YL (d:=x2) (eE:=PR k x1) ff j9 with⟨code,q1,q2⟩|⟨code,p,q1,q2,q3⟩
   ·rw[fh _ _ _ _ rfl] at q2
    exact⟨_,_,.lone code _ hic q1 (zT _),QA (by lia) (d2 _) q2⟩
   ·rw[fh _ _ _ _ rfl] at q3
    exact⟨_,_,.Hl p code _ _ hic q1 (zT _) q2,QA (by lia) (d2 _) q3⟩
  ·by_cases h4:s=4
   ·have hp:iK s=47:=by rw[h4];rfl
    have hf:gK s=2:=by rw[h4];rfl
    rw[hp] at j9⊢
    have q:=Jv (cE:=x2) (many:= .tup [.int e1,.int e2]) j9
    rw[fh _ _ _ _ rfl] at q
    exact⟨_,_,.PT rfl hf,Vw (by lia) (d2 _) q⟩
   ·have hp:iK s=17:=by unfold iK;rw[aB (by lia),aB (by lia),aB (by omega)]
    rw[hp] at j9⊢
    have q:=Ju (cE:=x2) g1 g2 j9
    rw[fh _ _ _ _ rfl] at q
    exact⟨_,_,.PS _ rfl ff,Vw (by lia) (d2 _) q⟩
 refine dY λG hG=>?_
 obtain⟨so,aW,hkd,zw⟩:=Tv
 refine hG ?_
 refine⟨so,gK s,iK s,e1,e2,aW,aE,zone,⟨g1,g2,g3,hkd⟩,?_⟩
 have m1:jq .mod (.int (t0+x0)) (.int 6)=some (.int s):=aj (λz=>some (V.int z)) s3
 have m2:jq .mod (.int (t1+x1)) (.int 3)=some (.int e1):=aj (λz=>some (V.int z)) g4
 rw[g4] at g5
 have m3:jq .mod (.int (e1+1+(t2+x1.fdiv 3).fmod 2)) (.int 3)=some (.int e2):=aj (λz=>some (V.int z)) g5
 have m4:jq .mod (.int (x3.fdiv 16)) (.int 8)=some (.int aE):=aj (λz=>some (V.int z)) hfl
 have r2:=(nB (af P0 5) [some S,some (.int a),some (.int k),some (.int s),some (.int (gK s)),some (.int (iK s)),some (.int x1),some (.int e1),some (.int e2),some (.int aE),some (.loc σ.length),some (.int (cD (gK s) e1)),some (.int (cD (gK s) e2)),some (.lst (nv aW))] [QX] (σ++[so])) (MO (aE:=aE) g1 g2 hkd _)
 have f7:kG (.loc σ.length) (.str 117) (.tup [.int (gK s),.int (iK s),.int 0,.int 0]) (σ++[.dict 2 [(.str 29,.int zone),(.str 122,.bool false),(.str 120,.bool false),(.str 121,.bool false),(.str 128,.bool (brk aE (iK s)))]])=some (σ++[.dict 2 [(.str 29,.int zone),(.str 122,.bool false),(.str 120,.bool false),(.str 121,.bool false),(.str 128,.bool (brk aE (iK s))),(.str 117,.tup [.int (gK s),.int (iK s),.int 0,.int 0])]]):=uH rfl (aD rfl)
 have f8:kG (.loc σ.length) (.str 118) (.lst [.tup [.int (cD (gK s) e1),.int 0],.tup [.int (cD (gK s) e2),.int 0]]) (σ++[.dict 2 [(.str 29,.int zone),(.str 122,.bool false),(.str 120,.bool false),(.str 121,.bool false),(.str 128,.bool (brk aE (iK s))),(.str 117,.tup [.int (gK s),.int (iK s),.int 0,.int 0])]])=some (σ++[jv zone (brk aE (iK s)) (gK s) (iK s) (cD (gK s) e1) (cD (gK s) e2)]):=uH rfl (aD rfl)
 have r1:=O3 (af P0 5) 3 [some S,some (.int a),some (.int k),some (.int s),some (.int (gK s)),some (.int (iK s)),some (.int x1),some (.int e1),some (.int e2),some (.int aE),some (.loc σ.length),none,none,none] (Rh.drop 10) (σ++[.dict 2 [(.str 29,.int zone),(.str 122,.bool false),(.str 120,.bool false),(.str 121,.bool false),(.str 128,.bool (brk aE (iK s)))]]) _ (λ_ _ _ h=>h) f7 (YR _) (YS _) f8 (bC zw r2)
 have f5:kG (.loc σ.length) (.str 120) (.bool false) (σ++[.dict 2 [(.str 29,.int zone),(.str 122,.bool false)]])=some (σ++[.dict 2 [(.str 29,.int zone),(.str 122,.bool false),(.str 120,.bool false)]]):=uH rfl (aD rfl)
 have f6:kG (.loc σ.length) (.str 121) (.bool false) (σ++[.dict 2 [(.str 29,.int zone),(.str 122,.bool false),(.str 120,.bool false)]])=some (σ++[.dict 2 [(.str 29,.int zone),(.str 122,.bool false),(.str 120,.bool false),(.str 121,.bool false)]]):=uH rfl (aD rfl)
 have r0:=O3 (af P0 5) 2 [some S,some (.int a),some (.int k),some (.int s),some (.int (gK s)),some (.int (iK s)),some (.int x1),some (.int e1),some (.int e2),some (.int aE),some (.loc σ.length),none,none,none] (Rh.drop 7) (σ++[.dict 2 [(.str 29,.int zone),(.str 122,.bool false)]]) _ (λ_ _ _ h=>h) f5 f6 (bC (q8 (aD rfl)) r1)
 exact IS (d:=Uq) (ρ:=[some S,some (.int a),some (.int k),none,none,none,none,none,none,none,none,none,none,none]) 6 rfl rfl λφ=>φ i0 (d0 _) rfl m1 (DZ s1 _) rfl (d1 _) i1 rfl m2 rfl i2 rfl rfl rfl rfl m3 rfl (d3 _) rfl m4 (bC (hz▸q7 (d3 _)) r0)
theorem YU{script:List Int}(hl:script.length≤63){a k:Nat}(ha:a<900)(hk:k<8)(σ:aa):
  ∃so ai pr e1 e2 aW aE zone,Sn so ai pr e1 e2 aW aE zone∧af P0 6 61 [sc script,.int a,.int k] σ=some (.tup [.loc σ.length,.int aE,.bytes (jO ai pr e1 e2 aW aE)],σ++[so]):=
 Tu hk (Nm 4 hl (Nat.lt_trans ha (by decide))) (Nm 4 (j:=a+1) hl (by decide+revert)) (Nm 4 (j:=a+2) hl (by decide+revert)) (Nm 4 (j:=a+3) hl (by exact ltN [_] 1 (.add vA (.num 3)) (.num 1000) [.s 1 vA (.num 900)] aI ha)) σ
noncomputable def jj:O:= .dict 2 [(.str 4,.int 0),(.str 5,.int 0),(.str 6,.int 0),(.str 7,.int 0),(.str 8,.int 0),(.str 9,.int 0),(.str 10,.int 0),(.str 11,.int 1),(.str 12,.int 1)]
theorem Jx{σ:aa}{k n:Nat}{es:List (V × V)}{v:V}(hk:k=0∨k=2)(r:es.length<1000):kG (.loc σ.length) (.str n) v (σ++[.dict k es])=some (σ++[.dict 2 (cA es (.str n) v)]):=by
 refine(sI (u:= .str n) (by rw[List.getElem?_append_right (bS _),Nat.sub_self];rfl) (λz=>z.elim (λe=>nomatch (show(2:Nat)=0 from e)) λz=>z hk) r).trans (aj some ?_)
 rw[List.set_append_right _ _ (bS _),Nat.sub_self];rfl
theorem c6(n:Nat)(σ:aa):af P0 (n+1) 6 [] σ=some (.loc σ.length,σ++[jj]):=nG (d:=f6) rfl rfl λφ=>φ rfl (Jx (.inl rfl) (aD rfl)) (Jx (.inr rfl) (aD rfl)) (Jx (.inr rfl) (aD rfl)) (Jx (.inr rfl) (aD rfl)) (Jx (.inr rfl) (aD rfl)) (Jx (.inr rfl) (aD rfl)) (Jx (.inr rfl) (aD rfl)) (Jx (.inr rfl) (aD rfl)) (Jx (.inr rfl) (aD rfl))
theorem c8(n p:Nat){l:List Nat}{k pr off place:Int}{mt:V}{m:Bool}{σ:aa}(hl:l.length≤1000)(h:σ[p]? =some (.inst 7 [(13,.aM l),(15,.aM []),(16,.int (if k=2 then 2048 else 34525)),(17,.int (-1)),(18,.int (-1)),(19,.int 0),(20,mt)]))
  (h1:∀σ,af P0 n (if k=2 then 1 else 5) [.aM l] σ=some (.tup [.int pr,.int off,.int place,.bool m],σ))(ho:off≤l.length):
  af P0 (n+1) 8 [.loc p] σ=some (.none,σ.set p (cO l k pr (if place=0 then off else-1) place mt)):=by
 have i:=In.of h
 have n9:l.length≤100000:=cV ‹_› (aD rfl)
 by_cases hk:k=2
 ·subst hk
  replace h:σ[p]? =some (.inst 7 [(13,.aM l),(15,.aM []),(16,.int 2048),(17,.int (-1)),(18,.int (-1)),(19,.int 0),(20,mt)]):=h
  by_cases hp:place=0
  ·subst hp
   exact nG (d:=f8) rfl rfl λφ=>φ (sA h (aD rfl)) (rD i (aD rfl)) (rD i (aD rfl)) (gA (ja i) rfl) rfl (gA (ja i) rfl) (h1 _) rfl rfl (rD i (aD rfl)) rfl (rD i (aD rfl)) rfl rfl rfl (gA (ja i) rfl) (ku n9) (Mq ho) rfl (rD i (aD rfl))
  ·refine ay (aB hp) ?_
   exact nG (d:=f8) rfl rfl λφ=>φ (sA h (aD rfl)) (rD i (aD rfl)) (rD i (aD rfl)) (gA (ja i) rfl) rfl (gA (ja i) rfl) (h1 _) rfl rfl (rD i (aD rfl)) rfl (rD i (aD rfl)) rfl (gn hp)
 ·rw[aB hk] at h h1
  unfold cO
  refine ay (aB hk) (?_)
  by_cases hp:place=0
  ·cases hp
   exact nG (d:=f8) rfl rfl λφ=>φ (sA h (aD rfl)) (rD i (aD rfl)) (rD i (aD rfl)) (gA (ja i) rfl) rfl (gA (ja i) rfl) rfl (gA (ja i) rfl) (h1 _) rfl rfl (rD i (aD rfl)) rfl (rD i (aD rfl)) rfl rfl rfl (gA (ja i) rfl) (ku n9) (Mq ho) rfl (rD i (aD rfl))
  ·refine(aB hp)▸ ?_
   exact nG (d:=f8) rfl rfl λφ=>φ (sA h (aD rfl)) (rD i (aD rfl)) (rD i (aD rfl)) (gA (ja i) rfl) rfl (gA (ja i) rfl) rfl (gA (ja i) rfl) (h1 _) rfl rfl (rD i (aD rfl)) rfl (rD i (aD rfl)) rfl (gn hp)
theorem r8(σ ds:aa)(o:O):(σ++o::ds)[σ.length]? =some o:=by
 rw[List.getElem?_append_right (bS _),Nat.sub_self];rfl
theorem Cs(σ ds:aa)(o o':O):(σ++o::ds).set σ.length o'=σ++o'::ds:=by
 simp[List.set_append]
theorem Cu{σ:aa}{a b o:O}:(σ++[a]++[b]).set σ.length o=σ++[o]++[b]:=(xJ _ _ _ _ (IP _ _ _ rfl)).trans (aj (· ++[b]) (fh _ _ _ _ rfl))
theorem D0(n:Nat){l:List Nat}{k pr off place:Int}{m:Bool}(σ:aa)(hl:l.length≤1000)(ho:off≤l.length)
  (h1:∀σ,af P0 n (if k=2 then 1 else 5) [.aM l] σ=some (.tup [.int pr,.int off,.int place,.bool m],σ))(hn:0<n):
  kJ n l (if k=2 then 2048 else 34525) σ=some (.loc σ.length,σ++[cO l k pr (if place=0 then off else-1) place (.loc (σ.length+1))]++[jj]):=by
 refine bK (⟨n-1,(Nat.succ_pred_eq_of_pos hn).symm⟩:∃m,n=m+1) λn bP=>?_
 clear hn
 subst bP
 have hs:sM (.loc σ.length) 20 (.loc (σ++[O.inst 7 [(13,.aM l),(15,.aM []),(16,.int (if k=2 then 2048 else 34525)),(17,.int (-1)),(18,.int (-1)),(19,.int 0)]]).length) (σ++[.inst 7 [(13,.aM l),(15,.aM []),(16,.int (if k=2 then 2048 else 34525)),(17,.int (-1)),(18,.int (-1)),(19,.int 0)]]++[jj])=some (σ++[.inst 7 [(13,.aM l),(15,.aM []),(16,.int (if k=2 then 2048 else 34525)),(17,.int (-1)),(18,.int (-1)),(19,.int 0),(20,.loc (σ.length+1))]]++[jj]):=by
  refine ay eG (?_)
  exact(sA (bF (uU rfl)) (aD rfl)).trans (aj some Cu)
 have r1:=(nB (af P0 (n+1)) [some (.loc σ.length),some (.bytes l),some (.int (if k=2 then 2048 else 34525)),some (.bytes [])] (b7.drop 2) (σ++[.inst 7 [(13,.aM l),(15,.aM [])]]))
  (uc rfl (aD rfl)) (uc rfl (aD rfl)) (uc rfl (aD rfl)) (uc rfl (aD rfl)) (c6 n _) hs
 have r2:=(nB (af P0 (n+2)) [some (.bytes l),some (.int (if k=2 then 2048 else 34525)),some (.bytes []),some (.loc σ.length)] (b9.drop 1) (σ++[.inst 7 [(13,.aM l),(15,.aM []),(16,.int (if k=2 then 2048 else 34525)),(17,.int (-1)),(18,.int (-1)),(19,.int 0),(20,.loc (σ.length+1))]]++[jj])) (c8 (n+1) σ.length (mt:= .loc (σ.length+1)) hl (bF (uU rfl)) h1 ho)
 rw[Cu] at r2
 refine(?_:(if l.length≤1000 then _ else none)=_)
 refine ay (aC hl) (ay r1 (?_))
 show(aP _ _ _ _).bind _=_
 refine ay r2 (?_)
 rfl
theorem Tw(call:Call){p f now:V}(σ:aa){r:List MS}{fl:Fl}{ρ':Env}{τ:aa}(k:aP call [some (.loc σ.length),some p,some f,some now,some (.str 102)] r (σ++(.inst 53 [(67,p),(69,now),(103,.str 102),(70,.none),(33,.int 1),(72,.int 0),(40,.none)]::[]))=some (fl,ρ',τ)):aP call [some (.loc σ.length),some p,some f,some now,some (.str 102)] (.setattr (.var 0) 67 (.var 1):: .setattr (.var 0) 69 (.var 3):: .setattr (.var 0) 103 (.var 4):: .setattr (.var 0) 70 (.lit .none):: .setattr (.var 0) 33 (.lit (.int 1)):: .setattr (.var 0) 72 (.lit (.int 0)):: .setattr (.var 0) 40 (.lit .none)::r) (σ++[.inst 53 []])=some (fl,ρ',τ):=
 yb 7 λφ=>φ (uc rfl (aD rfl)) (uc rfl (aD rfl)) (uc rfl (aD rfl)) (uc rfl (aD rfl)) (uc rfl (aD rfl)) (uc rfl (aD rfl)) (uc rfl (aD rfl)) k
theorem Jy(σ ds:aa)(o d:O):(σ++o::ds)++[d]=σ++o::(ds++[d]):=List.append_assoc ..
theorem Bx(call:Call){e1 e2 e3 e4:Option V}(σ ds:aa)(n:Nat){c:Nat}{fs:List (Nat × V)}(hl:fs.length≤900){r:List MS}{fl:Fl}{ρ':Env}{τ:aa}(k:aP call [some (.loc σ.length),e1,e2,e3,e4] r (σ++(.inst c (kF fs n (.loc (σ.length+(ds.length+1))))::(ds++[.dict 0 []])))=some (fl,ρ',τ)):
  aP call [some (.loc σ.length),e1,e2,e3,e4] (.setattr (.var 0) n (.dict [])::r) (σ++ .inst c fs::ds)=some (fl,ρ',τ):=by
 have hs:sM (.loc σ.length) n (.loc (σ++ .inst c fs::ds).length) ((σ++ .inst c fs::ds)++[.dict 0 []])=some (σ++(.inst c (kF fs n (.loc (σ.length+(ds.length+1))))::(ds++[.dict 0 []]))):=by
  rw[Jy,show(σ++O.inst c fs::ds).length=σ.length+(ds.length+1) from eG ..]
  exact(sA (r8 ..) hl).trans (aj some (Cs ..))
 exact yb 1 λφ=>φ rfl hs k
theorem Ho(call:Call){e1 e2 e3 e4:Option V}(σ ds:aa)(n:Nat){c:Nat}{fs:List (Nat × V)}(hl:fs.length≤900){v:V}{r:List MS}{fl:Fl}{ρ':Env}{τ:aa}(k:aP call [some (.loc σ.length),e1,e2,e3,e4] r (σ++ .inst c (kF fs n v)::ds)=some (fl,ρ',τ)):
  aP call [some (.loc σ.length),e1,e2,e3,e4] (.setattr (.var 0) n (.lit v)::r) (σ++ .inst c fs::ds)=some (fl,ρ',τ):=yb 1 λφ=>φ ((sA (r8 ..) hl).trans (aj some (Cs ..))) k
noncomputable def Cv(s:Nat)(f:V):List (Nat × V):=[(104,.loc (s+1)),(105,.loc (s+2)),(106,f),(107,.loc (s+3)),(108,.loc (s+4)),(109,.loc (s+5)),(110,.loc (s+6)),(111,.str 112),(113,.lst []),(114,.lst []),(115,.none),(116,.loc (s+7))]
noncomputable def Jz:aa:=[.dict 0 [],.dict 0 [],.dict 0 [],.dict 0 [],.dict 0 [],.dict 0 [],.dict 0 []]
theorem YV(n:Nat){p f now:V}(σ:aa):af P0 (n+1) 53 [.loc σ.length,p,f,now] (σ++[.inst 53 []])=some (.none,σ++(aq p now .none (.int 1) (.int 0) .none (Cv σ.length f)::Jz)):=
 (xH Uo [some (.loc σ.length),some p,some f,some now,some (.str 102)] rfl rfl).trans (aj outF (Tw (r:=Un.drop 7) (af P0 n) σ (Bx _ σ _ _ (aD rfl) (Bx _ σ _ _ (aD rfl) (Ho _ σ _ _ (aD rfl) (Bx _ σ _ _ (aD rfl) (Bx _ σ _ _ (aD rfl) (Bx _ σ _ _ (aD rfl) (Bx _ σ _ _ (aD rfl) (Ho _ σ _ _ (aD rfl) (Ho _ σ _ _ (aD rfl) (Ho _ σ _ _ (aD rfl) (Ho _ σ _ _ (aD rfl) (Bx _ σ _ _ (aD rfl) rfl))))))))))))))
theorem Vz{call:Call}{ρ:Env}{m:ME}{σ:aa}{r:Option (V × aa)}(k:NE call ρ m σ (λv τ=>aH call ρ m σ=some (v,τ))→aH call ρ m σ=r):aH call ρ m σ=r:=k (ne call ρ m σ _ λ_ _ h=>h)
theorem Hp{e0 e1 e2 e3 e4 e5 e6 e7 e9 fE dX jw gU eg ek eu dS dK:Option V}{now ai pr off place:Int}{w:List V}{m:Bool}{s:Nat}{l:List Nat}{es:List (V × V)}{σ:aa}(hs:σ[s]? =some (.dict 2 es))(PU:aQ es (.str 117)=some (.tup (.int ai::w)))
  (hl:l.length≤1000)(ho:off≤l.length)(h1:∀σ,af P0 4 (if ai=2 then 1 else 5) [.aM l] σ=some (.tup [.int pr,.int off,.int place,.bool m],σ)):
  wL 4 [e0,e1,e2,e3,e4,e5,e6,e7,some (.int now),e9,fE,some (.loc s),dX,some (.bytes l),jw,gU,eg,ek,eu,dS,dK] σ=
   some (.loc (σ.length+3),σ++[cO l ai pr (if place=0 then off else-1) place (.loc (σ.length+1)),jj,.dict 0 []]++(aq (.loc σ.length) (.int now) .none (.int 1) (.int 0) .none (Cv (σ.length+3) (.loc (σ.length+2)))::Jz)):=by
 have hk:aH (af P0 (4+2)) [e0,e1,e2,e3,e4,e5,e6,e7,some (.int now),e9,fE,some (.loc s),dX,some (.bytes l),jw,gU,eg,ek,eu,dS,dK] iT σ=some (.int (if ai=2 then 2048 else 34525),σ):=by
  have h0:cH (.loc s) (.str 117) σ=some (.tup (.int ai::w)):=bq hs PU
  by_cases hf:ai=2
  ·clear PU
   subst hf;exact Vz λφ=>φ h0 rfl rfl
  ·rw[aB hf];exact Vz λφ=>φ h0 rfl (gn hf)
 refine(?_:(aH _ _ _ _).bind _=_)
 refine ay hk ?_
 refine(?_:(kJ _ _ _ _).bind _=_)
 refine ay ((D0 4 (k:=ai) (pr:=pr) (off:=off) (place:=place) (m:=m) σ hl ho h1 (aD rfl))) ?_
 refine(?_:(af _ _ _ _ _).bind _=_)
 refine(YV 5 (p:= .loc σ.length) (f:= .loc (σ++[cO l ai pr (if place=0 then off else-1) place (.loc (σ.length+1))]++[jj]).length) (now:= .int now) (σ++[cO l ai pr (if place=0 then off else-1) place (.loc (σ.length+1))]++[jj]++[.dict 0 []]))▸ ?_
 have l2:(σ++[cO l ai pr (if place=0 then off else-1) place (.loc (σ.length+1))]++[jj]).length=σ.length+2:=by rw[eG,eG];rfl
 refine(?_:some (V.loc (σ++[cO l ai pr (if place=0 then off else-1) place (.loc (σ.length+1))]++[jj]++[O.dict 0 []]).length,_)=_)
 rw[l2,(by rw[eG,l2];rfl:(σ++[cO l ai pr (if place=0 then off else-1) place (.loc (σ.length+1))]++[jj]++[O.dict 0 []]).length=σ.length+3),List.append_assoc σ,List.append_assoc σ]
 rfl
noncomputable def lC(ai:Int):Nat:=if ai=2 then 20 else 40
noncomputable def rT(ai aE:Int)(aW:List Nat):List Nat:=if aE=6∨(aE=5∧ai=10) then aW.take 3 else aW
noncomputable def placeOf(ai aE:Int):Int:=if ai=2∧aE=5 then 1480 else 0
structure Lk(l:List Nat)(ai:Int)(pr e1 e2:Nat)(aW:List Nat)(aE:Int):Prop where
 look:∀σ,af P0 4 (if ai=2 then 1 else 5) [.aM l] σ=some (.tup [.int pr,.int (lC ai),.int (placeOf ai aE),.bool false],σ)
 hH:DV l (lC ai) (cy ai e1) (cy ai e2) (rT ai aE aW)
 le:l.length≤1000
 off:lC ai≤l.length
theorem Tz{h q pr e1 e2:Nat}{p aW:List Nat}{aE:Int}(hq:q=0∨q=185)(hp:p.length≤12)(hc:rT 2 aE aW=p)(hpl:placeOf 2 aE=(q*8:Nat)):Lk (Ck h q pr (cy 2 e1) (cy 2 e2) p) 2 pr e1 e2 aW aE:=by
 have hH:=PJ (h:=h) (q:=q) (pr:=pr) (S:=cy 2 e1) (T:=cy 2 e2) (aW:=p) rfl rfl
 have hl:=hH.len
 have h1:(Ck h q pr (cy 2 e1) (cy 2 e2) p).length≤1000:=hl.symm▸cV (Nat.add_le_add_left hp 20) (by decide)
 have h2:20≤(Ck h q pr (cy 2 e1) (cy 2 e2) p).length:=hl.symm▸Nat.le_add_right 20 _
 refine⟨λσ=>?_,hc.symm▸hH,h1,h2⟩
 refine ay hpl ?_
 exact c1 3 h2 h1 rfl rfl hq (λσ=>Th (p:=q) (by rcases hq with rfl|rfl<;>decide) σ) σ
theorem VA{h pr e1 e2:Nat}{p aW:List Nat}{aE:Int}(f2:pr=17∨pr=58)(hp:p.length≤12)(hc:rT 10 aE aW=p):Lk (Bu h pr (cy 10 e1) (cy 10 e2) p) 10 pr e1 e2 aW aE:=by
 have hH:=PL (h:=h) (pr:=pr) (S:=cy 10 e1) (T:=cy 10 e2) (aW:=p) rfl rfl
 have hl:=hH.len
 have h1:(Bu h pr (cy 10 e1) (cy 10 e2) p).length≤1000:=hl.symm▸cV (Nat.add_le_add_left hp 40) (by decide)
 have h2:40≤(Bu h pr (cy 10 e1) (cy 10 e2) p).length:=hl.symm▸Nat.le_add_right 40 _
 exact⟨λσ=>c5 1 h2 h1 rfl rfl f2 σ,hc.symm▸hH,h1,h2⟩
theorem JA{zone ai:Int}{pr e1 e2:Nat}{br:Bool}{aW:List Nat}{so:O}{aE:Int}(h1:e1<3)(h2:e2<3)(K:Kd zone ai pr e1 e2 br aW so):Lk (jO ai pr e1 e2 aW aE) ai pr e1 e2 aW aE:=by
 refine CG (K.Bw h1 h2) λf1 f2 f3 f4 f5=>?_
 have hp:aW.length≤12:=f4.elim (λh=>h▸(by decide)) cG
 have hp3:(aW.take 3).length≤12:=cV (List.length_take_le' ..) hp
 clear K
 rcases f1 with rfl|rfl
 ·by_cases h5:aE=5
  ·subst h5;exact Tz (.inr rfl) hp rfl rfl
  by_cases h6:aE=6
  ·subst h6;exact Tz (.inl rfl) hp3 rfl rfl
  ·have e:jO 2 pr e1 e2 aW aE=Ck (20+aW.length) 0 pr (cy 2 e1) (cy 2 e2) aW:=by unfold jO;rw[aC rfl,aB h5,aB h6]
   refine ay e ?_
   exact Tz (.inl rfl) hp (aB λh=>h.elim h6 λh=>h5 h.1) (aB λh=>h5 h.2)
 ·by_cases h:aE=6∨aE=5
  ·have e:jO 10 pr e1 e2 aW aE=Bu aW.length pr (cy 10 e1) (cy 10 e2) (aW.take 3):=by unfold jO;rw[aB (by decide),aC h]
   refine ay e (?_)
   exact VA (f2 rfl) hp3 (aC (h.imp id λh=>⟨h,rfl⟩))
  ·have e:jO 10 pr e1 e2 aW aE=Bu aW.length pr (cy 10 e1) (cy 10 e2) aW:=by unfold jO;rw[aB (by decide),aB h]
   refine ay e (?_)
   exact VA (f2 rfl) hp (aB λk=>h (k.imp id λk=>k.1))
theorem Hq{l aW:List Nat}{ai aE:Int}{pr e1 e2:Nat}{x y:V}(L:Lk l ai pr e1 e2 aW aE)(hf:ai=2∨ai=10)(h1:e1<3)(h2:e2<3)
  (h21:∀σ,af P0 3 21 [.aM l,.int ai,.int pr,.int (lC ai)] σ=some (.tup [x,y],σ))(σ:aa):
  af P0 4 22 [.aM l,.int ai,.int pr,.int (lC ai)] σ=some (.tup [.int ai,.int pr,.int (cD ai e1),x,.int (cD ai e2),y],σ):=by
 have hc:=L.hH.cuts
 have n1:=λσ=>PE hf h1 σ
 have n2:=λσ=>PE hf h2 σ
 have hle:=L.le
 rcases hf with rfl|rfl
 ·have c1:=hc.1
  have c2:=hc.2
  have Hy:nQ l 12 16=cy 2 e1:=c1
  have TF:nQ l 16 20=cy 2 e2:=c2
  exact PG 3 hle (h21 σ) (by rw[Hy];exact n1 σ) (by rw[TF];exact n2 σ)
 ·have c1:=hc.1
  have c2:=hc.2
  have Hy:nQ l 8 24=cy 10 e1:=c1
  have TF:nQ l 24 40=cy 10 e2:=c2
  exact PI 3 hle (h21 σ) (by rw[Hy];exact n1 σ) (by rw[TF];exact n2 σ)
theorem nM(ai:Int):lC ai=20∨lC ai=40:=by unfold lC;split<;>simp
theorem D4{l aW:List Nat}{ai aE:Int}{pr e1 e2:Nat}(L:Lk l ai pr e1 e2 aW aE)(hp:pr=17∨(ai=2∧pr=1)∨(ai=10∧pr=58))(h3:(rT ai aE aW).length=3)(σ:aa):
  af P0 4 22 [.aM l,.int ai,.int pr,.int (lC ai)] σ=some (.none,σ):=by
 have hl:=L.hH.len
 rcases hp with rfl|hp|hp
 ·exact uC 3 (Hf 2 (nM ai) (by exact ltN [_,_,_] 1 vA (.add vB (.num 4)) [.e 1 vC (.num 3),.e 1 vA (.add vB vC)] aI h3 hl) σ)
 ·obtain⟨rfl,rfl⟩:=hp
  exact uC 3 (wm 1 (.inl ⟨rfl,rfl⟩) (nM _) (by exact ltN [_,_,_] 1 vA (.add vB (.num 8)) [.e 1 vC (.num 3),.e 1 vA (.add vB vC)] aI h3 hl) σ)
 ·obtain⟨rfl,rfl⟩:=hp
  exact uC 3 (wm 1 (.inr ⟨rfl,rfl⟩) (nM _) (by exact ltN [_,_,_] 1 vA (.add vB (.num 8)) [.e 1 vC (.num 3),.e 1 vA (.add vB vC)] aI h3 hl) σ)
theorem JB{l:List Nat}{ai aE:Int}{e1 e2 sp dp:Nat}{dO aW:List Nat}(L:Lk l ai 17 e1 e2 aW aE)(hf:ai=2∨ai=10)(h1:e1<3)(h2:e2<3)(hp:rT ai aE aW=gW sp++(gW dp++dO))(ms:sp∈jL)(md:dp∈jL)(σ:aa):
  af P0 4 22 [.aM l,.int ai,.int 17,.int (lC ai)] σ=some (.tup [.int ai,.int 17,.int (cD ai e1),.int sp,.int (cD ai e2),.int dp],σ):=by
 have hl:=L.hH.len
 have p1:=L.hH.aW 0 2
 have p2:=L.hH.aW 2 4
 rw[hp] at p1 p2 hl
 rw[(rfl:nQ (gW sp++(gW dp++dO)) 0 2=gW sp),Nat.add_zero] at p1
 exact Hq L hf h1 h2 (λσ=>Jr 2 (nM ai) (L.le) (by rw[hl];simp[gW]) (λσ=>by rw[p1];exact MK ms σ) (λσ=>by rw[p2];exact MK md σ) σ) σ
theorem JC{l:List Nat}{aE:Int}{e1 e2:Nat}{aW:List Nat}(L:Lk l 2 47 e1 e2 aW aE)(h1:e1<3)(h2:e2<3)(σ:aa):
  af P0 4 22 [.aM l,.int 2,.int 47,.int (lC 2)] σ=some (.tup [.int 2,.int 47,.int (cD 2 e1),.int 0,.int (cD 2 e2),.int 0],σ):=
 Hq L (.inl rfl) h1 h2 (λσ=>Js 1 σ) σ
theorem By{l:List Nat}{ai aE:Int}{pr e1 e2 kind code bu:Nat}{aW:List Nat}(L:Lk l ai pr e1 e2 aW aE)(hi:(ai=2∧pr=1)∨(ai=10∧pr=58))(h1:e1<3)(h2:e2<3)(hp:rT ai aE aW=[kind,code,0,0,0,bu,0,1])(hk:kind<256)(hid:bu=7∨bu=8):
  (∀σ,af P0 4 22 [.aM l,.int ai,.int pr,.int (lC ai)] σ=some (.tup [.int ai,.int pr,.int (cD ai e1),.int (if 0≤bV ai kind then bu else 0),.int (cD ai e2),.int (kind*256+code:Nat)],σ))∧lC ai+8=l.length∧l[lC ai]? =some kind:=by
 have hl:=L.hH.len
 have p1:=L.hH.aW 4 6
 have g0:=L.hH.get 0
 have g1:=L.hH.get 1
 rw[hp] at p1 hl g0 g1
 replace p1:=((by rcases hid with rfl|rfl<;>rfl:nQ [kind,code,0,0,0,bu,0,1] 4 6=gW bu))▸p1
 have mi:bu∈jL:=by rcases hid with rfl|rfl<;>trivial
 have hi':(ai=2∧(pr:Int)=1)∨(ai=10∧(pr:Int)=58):=by lia
 have hl':l.length=lC ai+8:=hl
 refine⟨λσ=>Hq L (by lia) h1 h2 (λσ=>Hg 1 hi' (nM ai) (L.le) (by exact(cG (Eq.symm hl'))) g0 g1 hk (λσ=>by rw[p1];exact MK mi σ) σ) σ,hl'.symm,g0⟩
noncomputable def VB(l:List Nat)(q:Q)(off:Nat):Prop:=(∀σ,af P0 4 22 [.aM l,.int q.ai,.int q.proto,.int off] σ=some (q.pk,σ))∧((q.proto=1∨q.proto=58)→∃kind,off+8≤l.length∧l[off]? =some kind∧uf q.ai kind=false∧kind∉[130,131,132,133,134,135,136,143])
structure Ec(ai:Int)(p:Nat):Prop where
 w:(ai=2∧((je ai p:Int)=8∨(je ai p:Int)=13∨(je ai p:Int)=15∨(je ai p:Int)=17))∨(ai=10∧(je ai p:Int)=128)
 a:(rS ai p:Int)=bV ai (je ai p)
 b:(je ai p:Int)=bV ai (rS ai p)
 e1:uf ai (je ai p)=false
 e2:uf ai (rS ai p)=false
 n1:je ai p∉[130,131,132,133,134,135,136,143]
 n2:rS ai p∉[130,131,132,133,134,135,136,143]
theorem TG:∀p,p<4→Ec 2 p
 |0,_=>⟨.inl ⟨rfl,.inl rfl⟩,rfl,rfl,rfl,rfl,by decide,by decide⟩
 |1,_=>⟨.inl ⟨rfl,.inr (.inl rfl)⟩,rfl,rfl,rfl,rfl,by decide,by decide⟩
 |2,_=>⟨.inl ⟨rfl,.inr (.inr (.inl rfl))⟩,rfl,rfl,rfl,rfl,by decide,by decide⟩
 |3,_=>⟨.inl ⟨rfl,.inr (.inr (.inr rfl))⟩,rfl,rfl,rfl,rfl,by decide,by decide⟩
 |p+4,h=>absurd h (Nat.not_lt.mpr (Nat.le_add_left 4 p))
theorem PV(p:Nat):Ec 10 p:=⟨.inr ⟨rfl,rfl⟩,rfl,rfl,rfl,rfl,(by decide:(128:Nat)∉_),(by decide:(129:Nat)∉_)⟩
theorem YW{ai:Int}{pr p:Nat}(hi:(ai=2∧pr=1)∨(ai=10∧pr=58))(h:p<DW ai):Ec ai p∧((ai=2∧(pr:Int)=1∧((je ai p:Int)=8∨(je ai p:Int)=13∨(je ai p:Int)=15∨(je ai p:Int)=17))∨(ai=10∧(pr:Int)=58∧(je ai p:Int)=128)):=by
 rcases hi with⟨rfl,rfl⟩|⟨rfl,rfl⟩
 ·have e:=TG p h
  exact⟨e,.inl ⟨rfl,rfl,(e.w.resolve_right λz=>absurd z.1 (by decide)).2⟩⟩
 ·have e:=PV p
  exact⟨e,.inr ⟨rfl,rfl,rfl⟩⟩
theorem YX{c:Nat}(h:c=0∨c=1):(c:Int)=0∨(c:Int)=1:=h.imp (aj Int.ofNat) (aj Int.ofNat)
theorem kc(k c:Nat):((k*256+c:Nat):Int)=256*(k:Int)+c:=by exact Int.le_antisymm (lD [_,_] 1 (.add (.mulR vA 256) vB) (.add (.mulL 256 vA) vB) [] aI) (lD [_,_] 1 (.add (.mulL 256 vA) vB) (.add (.mulR vA 256) vB) [] aI)
theorem PW{pr:Nat}{ai:Int}(hi:(ai=2∧pr=1)∨(ai=10∧pr=58)):pr≠47:=by
 rcases hi with⟨_,rfl⟩|⟨_,rfl⟩<;>decide
theorem JD{zone ai:Int}{pr e1 e2 p code bu:Nat}{eE:Bool}{l:List Nat}{aE:Int}(h1:e1<3)(h2:e2<3)(bT:cD ai e1≠cD ai e2)(hcp:rT ai aE (qe ai p code bu eE)=qe ai p code bu eE)
  (h3:(ai=2∧pr=1)∨(ai=10∧pr=58))(h4:code=0∨code=1)(h5:bu=7∨bu=8)(h6:p<DW ai)(L:Lk l ai pr e1 e2 (qe ai p code bu eE) aE):
  ∃q,bR ⟨zone,ai,pr,je ai p,code,cD ai e1,bu,cD ai e2,bu,256*je ai p+code,256*rS ai p+code,eE⟩=bR q∧WQ q∧q.zone=zone∧q.ai=ai∧q.proto=pr∧VB l q (lC ai):=by
 refine dF (YW h3 h6) λec w=>?_
 refine⟨_,rfl,⟨bT,.inr ⟨w,YX h4,rfl,rfl,aj (λx=>256*x+(code:Int)) ec.a⟩⟩,rfl,rfl,rfl,?_⟩
 cases eE with
 |true=>
  have T:=By L h3 h1 h2 hcp (Nat.lt_of_le_of_lt (xY ai p) (by decide)) h5
  refine⟨λσ=>?_,λ_=>⟨_,cG T.2.1,T.2.2,ec.e2,ec.n2⟩⟩
  rw[T.1 σ,aC (ec.b▸fF _),kc]
  rfl
 |false=>
  have T:=By L h3 h1 h2 hcp (Nat.lt_of_le_of_lt (xX ai p) (by decide)) h5
  refine⟨λσ=>?_,λ_=>⟨_,cG T.2.1,T.2.2,ec.e1,ec.n1⟩⟩
  rw[T.1 σ,aC (ec.a▸fF _),kc]
  rfl
theorem Hr{zone ai:Int}{pr e1 e2:Nat}{aW l:List Nat}{so:O}{aE:Int}(h1:e1<3)(h2:e2<3)(ne:e1≠e2)(hb:brk aE pr=false)(K:Kd zone ai pr e1 e2 false aW so)(L:Lk l ai pr e1 e2 aW aE):
  (∃q,so=bR q∧WQ q∧q.zone=zone∧q.ai=ai∧q.proto=pr∧VB l q (lC ai))∨
  (∃code bu:Nat,((ai=2∧pr=1)∨(ai=10∧pr=58))∧(code=0∨code=1)∧(bu=7∨bu=8)∧so=Cp zone false (decide (j0 ai code=135)) ai pr (cD ai e1) (cD ai e2) bu∧rT ai aE aW=r6 ai code bu):=by
 have bT:cD ai e1≠cD ai e2:=λe=>ne (G9 e)
 have h5:aE≠5:=by rintro rfl;simp[brk] at hb
 have hcp:pr≠47→rT ai aE aW=aW:=by
  intro h
  have:aE≠6:=λe=>h ((by rintro rfl;simp[brk] at hb;exact dH (Int.ofNat_le.mp (lD [_] 1 vA (.num 47) [.e 1 vA (.num 47)] aI hb)) (Int.ofNat_le.mp (lD [_] 1 (.num 47) vA [.f 1 vA (.num 47)] aI hb)):aE=6→pr=47) e)
  simp[rT,h5,this]
 cases K with
 |PS d h3 h4=>
  subst h3
  refine .inl ⟨oY zone ai 17 (cD ai e1) (dU e1 d) (cD ai e2) (dW e2 d),rfl,⟨bT,.inl ⟨?_,rfl,rfl,rfl,rfl,rfl⟩⟩,rfl,rfl,rfl,?_,λh=>?_⟩
  ·rcases h4 with h4|h4
   ·exact .inl ⟨h4,rfl⟩
   ·exact .inr (.inl ⟨h4,rfl⟩)
  ·exact λσ=>JB L h4 h1 h2 (hcp (by decide)) (qR h1).2 (qS h2).2 σ
  ·rcases h with h|h<;>cases h
 |PT h3 h4=>
  subst h3 h4
  refine .inl ⟨oY zone 2 47 (cD 2 e1) 0 (cD 2 e2) 0,rfl,⟨bT,.inl ⟨.inr (.inr ⟨rfl,rfl⟩),rfl,rfl,rfl,rfl,rfl⟩⟩,rfl,rfl,rfl,λσ=>JC L h1 h2 σ,λh=>?_⟩
  rcases h with h|h<;>cases h
 |lone code bu h3 h4 Oh=>exact .inr ⟨code,bu,h3,h4,Oh,rfl,hcp (PW h3)⟩
 |Hl p code bu eE h3 h4 Oh YY=>exact .inl (JD h1 h2 bT (hcp (PW h3)) h3 h4 Oh YY L)
noncomputable def Cw(l:List Nat)(ai:Int)(pr:Nat)(aE:Int)(mt:V):O:=cO l ai pr (if placeOf ai aE=0 then lC ai else-1) (placeOf ai aE) mt
section
variable {S pl:Nat} {now zone dc gy mt:V} {g:List (Nat × V)} {l:List Nat} {ai aE:Int} {pr:Nat} {σ:aa}
theorem x7{zn:Int}{aW:List Nat}{so:O}{e1 e2:Nat}(hg:g.length≤800)(h:σ[S]? =some (aq (.loc pl) now dc (.int 1) gy (.loc 0) g))(hp:σ[pl]? =some (Cw l ai pr aE mt))(h1:e1<3)(h2:e2<3)(hb:brk aE pr=true)(K:Kd zn ai pr e1 e2 true aW so)(L:Lk l ai pr e1 e2 aW aE):
  af P0 6 51 [.loc S,zone] σ=some (.none,σ.set S (aq (.loc pl) now .none (.int 1) (.int 0) (.loc 0) g)):=by
 refine CG (K.Bw h1 h2) λf1 f2 f3 f4 f5=>?_
 unfold Cw at hp
 refine I0 4 pl S hg h ?_
 by_cases hpl:ai=2∧aE=5
 ·rw[aB (by rw[placeOf,aC hpl];exact λbT=>qq [] [.e 1 (.num 1480) (.num 0)] aI bT)] at hp
  exact Gz 3 pl hp f1 (fF _)
 ·have e0:placeOf ai aE=0:=by rw[placeOf,aB hpl]
  rw[e0,aC rfl] at hp
  have hc:aE=6∨(aE=5∧ai=10):=by
   simp[brk] at hb
   rcases hb with hb|⟨hb,_⟩
   ·exact .inr ⟨hb,by lia⟩
   ·exact .inl hb
  have Oe:pr=17∨(ai=2∧pr=1)∨(ai=10∧pr=58):=by
   clear f5 f4
   cases K with
   |PS d h3 h4=>exact .inl h3
   |PT h3 h4=>
    simp[brk] at hb
    grind
   |lone code bu h3 h4 h5=>exact .inr h3
   |Hl p code bu eE h3 h4 h5 h6=>exact .inr h3
  exact SN 3 pl hp f1 (by exact kD (fF _)) (D4 L Oe (by unfold rT;rw[aC hc];simp;lia))
theorem Hs{code:Nat}(hf:ai=2∨ai=10)(hc:code=0∨code=1):bV ai (j0 ai code)= -1:=by
 rcases hf with rfl|rfl<;>rcases hc with rfl|rfl<;>rfl
end
theorem Ht{ah:List Rw}{cnt:Int}(R:aN ah cnt)(zone A1 A2:Int):V.tup [.int zone,.tup [.int 2,.int 1,.int A1,.int 0,.int A2,.int 2304]]∉aZ (cT ah):=by
 intro hm
 simp only[aZ,List.mem_map] at hm
 refine aA hm λe he hee=>?_
 refine aA (gu.mp he) λp hp he=>?_
 have hk:=qL.mp (m8 (k:=e.1) (v:=e.2) he)
 rw[hee] at hk
 have hq:=R.wq p hp
 rcases hk.2 with h|h
 ·have:(2:Int)=p.d.q.ai∧(1:Int)=p.d.q.proto∧(2304:Int)=p.d.q.x:=by
   simp[Q.k0,Q.t] at h
   exact⟨h.2.1,h.2.2.1,h.2.2.2.2.2.2⟩
  rcases hq.or with h|h<;>omega
 ·have:(2:Int)=p.d.q.ai∧(1:Int)=p.d.q.proto∧(2304:Int)=p.d.q.y:=by
   simp[Q.k1,Q.b] at h
   exact⟨h.2.1,h.2.2.1,h.2.2.2.2.2.2⟩
  rcases hq.or with h|⟨h,h4,_,hx,hy⟩
  ·omega
  ·rcases h with⟨hf,_,h|h|h|h⟩|⟨hf,_,h⟩<;>rw[hf,h] at hy<;>simp[bV] at hy<;>omega
theorem BC{S pl:Nat}{now zone:Int}{dc gy mt:V}{g:List (Nat × V)}{l:List Nat}{ai aE cnt:Int}{pr:Nat}{σ:aa}{ah:List Rw}{e1 e2 code bu:Nat}{aW:List Nat}(hg:g.length≤800)(h:σ[S]? =some (aq (.loc pl) (.int now) dc (.int 1) gy (.loc 0) g))(hp:σ[pl]? =some (Cw l ai pr aE mt))(h1:e1<3)(h2:e2<3)
  (I:cB σ ah cnt)(R:aN ah cnt)(hb:brk aE pr=false)(hi:(ai=2∧pr=1)∨(ai=10∧pr=58))(hc:code=0∨code=1)(hid:bu=7∨bu=8)(hcp:rT ai aE aW=r6 ai code bu)(L:Lk l ai pr e1 e2 aW aE):
  af P0 6 51 [.loc S,.int zone] σ=some (.none,σ.set S (aq (.loc pl) (.int now) .none (.int (if j0 ai code=135 then 64 else 1)) (.int 0) (.loc 0) g)):=by
 have h5:aE≠5:=by rintro rfl;simp[brk] at hb
 have e0:placeOf ai aE=0:=by rw[placeOf,aB (by lia)]
 have T:=By L hi h1 h2 hcp zS hid
 have hf:ai=2∨ai=10:=by lia
 unfold Cw at hp
 clear hcp hb h2 h1
 rw[e0,aC rfl] at hp
 have hle:=L.le
 clear e0 L
 obtain⟨t1,t2,t3⟩:=T
 rw[Hs hf hc,aB (by decide)] at t1
 have SW:S≠pl:=i8 h hp (by intro e;simp[aq,cO] at e)
 have h23:=SN 3 pl hp hf (by exact kD (fF _)) t1
 have iS:=In.of h
 have PX:l[((lC ai:Nat):Int).toNat]? =some (j0 ai code):=by rw[Int.toNat_natCast];exact t3
 have hdr:(l.drop (((lC ai:Nat):Int)+8).toNat).length<20:=by rw[List.length_drop];omega
 rcases hi with⟨rfl,rfl⟩|⟨rfl,rfl⟩
 ·have zY:=SM 4 (proto:=1) I.hB I.h3 (by decide)
  have ht:σ[IY 1]? =_:=I.h7
  rcases hc with rfl|rfl
  ·have DO:=Pk 1 pl hp hf rfl (by exact fF _) (by omega) hle PX
   have hinv:∀σ,af P0 3 25 [.tup [.int 2,.int 1,.int (cD 2 e1),.int 0,.int (cD 2 e2),.int 2304]] σ=some (.none,σ):=λσ=>by
    rw[zE 1 rfl (by decide)];rfl
   have zI:=ue 3 S (zone:=zone) (t:= .tup [.int 2,.int 1,.int (cD 2 e1),.int 0,.int (cD 2 e2),.int 2304]) h (qN 2 (now:=now) I rfl (Ht R zone _ _))
   have KC:=Gx 2 S hg (zone:= .int zone) (tr:= .loc (IY 1)) h hinv
   exact ug 5 pl S h h23 zY ht (Bf 4 pl S h DO) (zF 4 S h zI KC (by rw[cM _ _ _ iS]))
  ·have DO:=Pk 1 pl hp hf rfl (by exact fF _) (by omega) hle PX
   have Pn:=Vh 2 pl (b:= .loc 0) (zone:= .int zone) (now:= .int now) hp hf (fF _) (fF _) hle (λσ=>Vu 1 hdr σ)
   exact xK 5 pl S h h23 zY ht (Ca 4 pl S hg h DO Pn)
 ·have zY:=SM 4 (proto:=58) I.hB I.h3 (by decide)
  have ht:σ[IY 58]? =_:=I.h8
  rcases hc with rfl|rfl
  ·exact xK 5 pl S h h23 zY ht (GB 3 pl S hg h hp SW (by exact fF _) (by exact lD [_,_] 1 (.add vA (.num 8)) vB [.e 1 (.add vA (.num 8)) vB] aI (aj Int.ofNat t2)) hle PX)
  ·have DO:=Pk 0 pl hp hf rfl (by exact fF _) (by exact ltI [_,_] 1 vA vB [.e 1 (.add vA (.num 8)) vB] aI (aj Int.ofNat t2)) hle PX
   have Pn:=Vh 1 pl (b:= .loc 0) (zone:= .int zone) (now:= .int now) hp hf (by exact fF _) (by exact ltI [_,_] 1 vA (.num 1000) [.l 1 vB (.num 1000),.e 1 (.add vA (.num 8)) vB] aI (gh hle) (aj Int.ofNat t2)) hle (λσ=>Vu 0 hdr σ)
   exact xK 5 pl S h h23 zY ht (GA 3 pl S h hp (by exact fF _) (by omega) hle PX (nofun) (Ca 3 pl S hg h DO Pn))
theorem Hu{σ τ:aa}{ah:List Rw}{cnt:Int}{i:Nat}{o:O}(I:dj σ ah cnt)(C:Ch (ML ah) σ τ)(h:σ[i]? =some o)(h1:∀d,o≠cj d)(h2:∀l,o≠ .list l):τ[i]? =some o:=by
 refine C.get h ?_
 rintro(rfl|rfl|⟨p,hp,rfl⟩)
 ·exact h2 _ (aX (h.symm.trans I.h12))
 ·exact h2 _ (aX (h.symm.trans I.qj))
 ·exact h1 _ (aX (h.symm.trans (I.hr p hp)))
theorem x8{σ τ:aa}{ah:List Rw}{cnt:Int}{i:Nat}{o:O}{S:Nat}(J:cB σ ah cnt)(C:Ch (KA S ah) σ τ)(h:σ[i]? =some o)(hS:i≠S)(cN:11≤i)(h1:∀d,o≠aK d):τ[i]? =some o:=by
 refine C.get h ?_
 rintro(rfl|h|h|h|⟨p,hp,rfl⟩)
 ·exact hS rfl
 ·exact bO [_] [.l 1 (.num 11) vA,.e 1 vA (.num 0)] aI cN h
 ·exact bO [_] [.l 1 (.num 11) vA,.e 1 vA (.num 1)] aI cN h
 ·exact bO [_] [.l 1 (.num 11) vA,.e 1 vA (.num 2)] aI cN h
 ·exact h1 _ (aX (h.symm.trans (J.ht p hp)))
theorem dj.JE{σ τ:aa}{ah ou:List Rw}{cnt c0:Int}{S:Nat}{a b c d e f:V}{g:List (Nat × V)}(I:dj σ ah cnt)(J:cB σ ou c0)(cN:15≤S)(hS:σ[S]? =some (aq a b c d e f g))(hr:∀p∈ah,15≤p.rl)(C:Ch (KA S ou) σ τ):dj τ ah cnt:=
 ⟨x8 J C I.h12 (by exact λbT=>bO [_] [.l 1 (.num 15) vA,.f 1 (.num 12) vA] aI cN bT) (Nat.le_succ _) (λd e=>by cases e),x8 J C I.qj (by exact λbT=>bO [_] [.l 1 (.num 15) vA,.f 1 (.num 13) vA] aI cN bT) (aD rfl) (λd e=>by cases e),
  λp hp=>x8 J C (I.hr p hp) (i8 (I.hr p hp) hS (λe=>jJ e.symm)) (by have:=hr p hp;exact cP [_] 1 (.num 11) vA [.l 1 (.num 15) vA] aI this) (λd=>kB _ _)⟩
theorem BD{l1 l2 m1 m2:List Rw}{p:Rw}(h:l1++p::l2=m1++p::m2)(n:∀x∈l1,x.rl≠p.rl)(n':∀x∈m1,x.rl≠p.rl):l1=m1∧l2=m2:=by
 induction l1 generalizing m1 with
 |nil=>
  cases m1 with
  |nil=>simpa using h
  |cons x m=>simp at h;exact absurd (aj Rw.rl h.1.symm) (n' x (by simp))
 |cons y l ih=>
  cases m1 with
  |nil=>simp at h;exact absurd (aj Rw.rl h.1) (n y (by simp))
  |cons x m=>
   simp only[List.cons_append,List.cons.injEq] at h
   obtain⟨rfl,h⟩:=h
   have:=ih h (λx hx=>n x (by simp[hx])) (λx hx=>n' x (by simp[hx]))
   exact⟨by rw[this.1],this.2⟩
theorem aN.mono{ah:List Rw}{c c':Int}(R:aN ah c)(h:c≤c'):aN ah c':=
 ⟨R.wq,R.ask,R.stK,R.stN,R.nd,R.inc,λp hp=>Int.le_trans (R.le p hp) h,R.MB,R.Ni,R.hi⟩
theorem aN.add{ah:List Rw}{c now:Int}{q:Q}{rl tl:Nat}(R:aN ah c)(hq:WQ q)(ha:q.eE=false)(hr:∀p∈ah,p.rl≠rl)(ht:∀p∈ah,p.tl≠tl)(h1:15≤rl)(h2:15≤tl):aN (ah++[⟨rl,tl,nW q (c+1) now⟩]) (c+1):=by
 have m:∀{P:Rw→Prop},(∀p∈ah,P p)→P ⟨rl,tl,nW q (c+1) now⟩→∀p∈ah++[⟨rl,tl,nW q (c+1) now⟩],P p:=λh h' p hp=>by
  rcases List.mem_append.mp hp with hp|hp
  ·exact h p hp
  ·rw[List.mem_singleton] at hp;rw[hp];exact h'
 refine⟨m R.wq hq,m R.ask ha,m R.stK (λh=>by cases h),m R.stN (λ_=> .inl rfl),?_,?_,m (λp hp=>?_) ?_,?_,?_,m R.hi ⟨h1,h2⟩⟩
 ·rw[pZ];simpa[cT,iH,nW] using R.nd
 ·rw[List.map_append,List.pairwise_append]
  refine⟨R.inc,by simp,λa ha b hb=>?_⟩
  refine aA (eK ha) λp hp cW=>?_
  subst cW
  simp only[fm,List.map_nil,List.mem_singleton] at hb
  have:=R.le p hp
  rw[hb];simp only[nW];exact ltI [_,_] 1 vA (.add vB (.num 1)) [.l 1 vA vB] aI this
 ·have:=R.le p hp;exact lD [_,_] 1 vA (.add vB (.num 1)) [.l 1 vA vB] aI this
 ·simp only[nW];exact lD [_] 1 (.add vA (.num 1)) (.add vA (.num 1)) [] aI
 ·rw[List.map_append,List.nodup_append]
  refine⟨R.MB,by simp,λa ha b hb=>?_⟩
  obtain⟨p,hp,rfl⟩:=eK ha
  simp only[fm,List.map_nil,List.mem_singleton] at hb
  rw[hb];exact hr p hp
 ·rw[List.map_append,List.nodup_append]
  refine⟨R.Ni,by simp,λa ha b hb=>?_⟩
  obtain⟨p,hp,rfl⟩:=eK ha
  simp only[fm,List.map_nil,List.mem_singleton] at hb
  rw[hb];exact ht p hp
structure Out(σ:aa)(ah:List Rw)(S s:Nat)(now:Int)(pk:V)(g:List (Nat × V))(rv:V)(st dir:Int)(τ:aa)(av:List Rw)(mj:Int):Prop where
 L:dj τ av mj
 P:cB τ av mj
 R:aN av mj
 ev:Ev ah av
 ch:Ch (λi=>i=S∨MA ah i) σ τ
 sc:∃tv,τ[S]? =some (aq pk (.int now) tv (.int st) (.int dir) (.loc 0) g)∧((rv=.none∧tv=.none∧av.map (·.tl)=ah.map (·.tl))∨
  ∃p∈av,rv=.loc p.rl∧tv=.loc p.tl∧(p.d.st=0→τ[s]? =some (bR p.d.q))∧(av.map (·.tl)=ah.map (·.tl)∨av.map (·.tl)=ah.map (·.tl)++[p.tl]))
theorem QY{ah:List Rw}{S:Nat}{a b c:aa}(h1:Ch (ML ah) a b)(h2:Ch (KA S ah) b c):Ch (λi=>i=S∨MA ah i) a c:=
 (h1.mono λi h=> .inr (.inl h)).trans (h2.mono λi h=>h.imp id λh=> .inr h)
theorem MQ{σ:aa}{ah:List Rw}{cnt now:Int}{q:Q}{S s pl:Nat}{g:List (Nat × V)}(hg:g.length≤800)(I:dj σ ah cnt)(J:cB σ ah cnt)(R:aN ah cnt)(aV:ah.length≤18)(hq:WQ q)(oZ:15≤s)(hs:σ[s]? =some (bR q))(cN:15≤S)
  (h:σ[S]? =some (aq (.loc pl) (.int now) .none (.int 1) (.int 0) (.loc 0) g))(hp:DN σ pl q):
  ∃rv st dir σ1 τ av mj,af P0 6 63 [.loc 12,.loc 13,.loc s,.int now] σ=some (.tup [rv,.int st,.int dir],σ1)∧σ1[s]? =some (bR q)∧af P0 6 51 [.loc S,.int q.zone] σ1=some (.none,τ)∧Out σ ah S s now (.loc pl) g rv st dir τ av mj:=by
 have base:∀{σ1:aa},Ch (ML ah) σ σ1→cB σ1 ah cnt∧σ1[s]? =some (bR q)∧σ1[S]? =some (aq (.loc pl) (.int now) .none (.int 1) (.int 0) (.loc 0) g)∧DN σ1 pl q:=λC=>by
  refine HN hp λl off place mt kind hpk hr=>?_
  exact⟨J.off I R R C,qQ I oZ hs C,Hu I C h (λd=>jJ) (λl e=>by simp[aq] at e),l,off,place,mt,kind,Hu I C hpk (λd e=>by simp[cO,cj] at e) (λl e=>by simp[cO] at e),hr⟩
 have PY:∀{σ1 τ:aa},cB σ1 ah cnt→σ1[s]? =some (bR q)→Ch (KA S ah) σ1 τ→τ[s]? =some (bR q):=λJ1 h1 C=>x8 J1 C h1 (i8 hs h (by intro e;simp[bR,aq] at e)) (by exact cP [_] 1 (.num 11) vA [.l 1 (.num 15) vA] aI oZ) λd=>jK
 refine jo (Cg R hq now) λqb r F=>?_
 cases r with
 |some x=>
  refine dY λG hG=>?_
  clear aV
  obtain⟨p,dir⟩:=x
  obtain⟨l1,l2,e,σ1,MR,I1,C1⟩:=G1 4 I R hs F
  refine sJ (base C1) λJ1 s1 h1 p1=>?_
  obtain⟨m1,m2,e',τ,MT,J2,C2,h2⟩:=Bs S pl hg J1 R hq F cN h1 p1
  have hn':((m1++p::m2).map (·.rl)).Nodup:=e'▸R.MB
  refine dF (BD (e.symm.trans e') (iI (e▸R.MB)).1 (iI hn').1) λLf bP=>?_
  clear hn' e'
  subst Lf bP
  subst e
  obtain⟨_,_,_,_,_,hk,hw,hd⟩:=F.some
  have R2:=R.rR (proto:=q.proto) (now:=now) (dir:=dir) hk
  refine gj (Bo p.d q.proto now dir) λu1 u2 u3=>?_
  refine hG ?_
  have hst:=Ci p.d q.proto now dir (R.stK p (by simp) hk)
  refine⟨_,_,_,σ1,τ,_,cnt,MR,s1,MT,I1.JE J1 cN h1 (λp hp=>(R2.hi p hp).1) C2,J2,R2,(Ev.upd rfl rfl u1 u2 (λh=>by have:(uV p.d q.proto now dir).st=0:=h;omega)),QY C1 C2,_,h2,.inr ⟨rR p q.proto now dir,by simp,rfl,rfl,λh=>?_,.inl (zN (l1:=l1) (l2:=l2) (p:=p) (p':=rR p q.proto now dir) rfl rfl).2⟩⟩
  have:(uV p.d q.proto now dir).st=0:=h
  lia
 |none=>
  cases ha:q.eE with
  |true=>
   refine dY λG hG=>?_
   refine gC (Jh 4 I R oZ hs F ha) λσ1 MR I1 C1=>?_
   obtain⟨J1,s1,h1,p1⟩:=base C1
   refine NP (DP S pl hg J1 R (by omega) hq F cN h1 p1 ha) λτ MT J2 C2 h2=>?_
   refine hG ?_
   have R2:=(F.ok R).mono (c':=cnt+1) (by exact lD [_] 1 vA (.add vA (.num 1)) [] aI)
   exact⟨_,_,_,σ1,τ,_,_,MR,s1,MT,I1.JE J1 cN h1 (λp hp=>(R2.hi p hp).1) C2,J2,R2,F.ev,QY C1 C2,_,h2,.inl ⟨rfl,rfl,F.rls.2⟩⟩
  |false=>
   refine dY λG hG=>?_
   refine HK (Ji 4 I R (by omega) oZ hs F ha) λσ1 rl MR I1 C1 hrl _=>?_
   obtain⟨J1,s1,h1,p1⟩:=base C1
   refine HK (DQ S pl hg J1 R (cV ‹_› (aD rfl)) hq F cN h1 p1 ha) λτ tl MT J2 C2 h2 QE=>?_
   refine hG ?_
   have is:=In.of hs
   have KI:∀p∈qb,p.rl<σ.length∧p.tl<σ.length:=λp hp=>by
    refine dY λG hG=>?_
    refine aA (eK (by rw[←F.rls.1];exact List.mem_map.mpr ⟨p,hp,rfl⟩)) λx hx ex=>?_
    obtain⟨y,hy,ey⟩:=eK (by rw[←F.rls.2];exact List.mem_map.mpr ⟨p,hp,rfl⟩)
    refine hG ?_
    exact⟨by rw[←ex];exact In.of (I.hr x hx),by rw[←ey];exact In.of (J.ht y hy)⟩
   have PZ:=C1.len
   have is':s<σ.length:=is
   have R2:=(F.ok R).add (now:=now) (rl:=rl) (tl:=tl) hq ha (λp hp=>by have:=(KI p hp).1;grind) (λp hp=>by have:=(KI p hp).2;grind) (by exact(Nat.le_of_lt (Nat.lt_of_lt_of_le (Nat.lt_of_le_of_lt oZ is') hrl))) (by exact(Nat.le_of_lt (Nat.lt_of_lt_of_le (Nat.lt_of_lt_of_le (Nat.lt_of_le_of_lt oZ is') PZ) QE)))
   refine⟨_,_,_,σ1,τ,_,_,MR,s1,MT,(I1 tl).JE J1 cN h1 (λp hp=>(R2.hi p hp).1) C2,J2 rl,R2,F.ev.trans (Ev.add _ _),QY C1 C2,_,h2,.inr ⟨⟨rl,tl,nW q (cnt+1) now⟩,by simp,rfl,rfl,λ_=>PY J1 s1 C2,.inr ?_⟩⟩
   rw[List.map_append,F.rls.2];rfl
theorem r9{zone ai:Int}{pr e1 e2:Nat}{br:Bool}{aW:List Nat}{so:O}(K:Kd zone ai pr e1 e2 br aW so):
  ∃eE lone near w dO,so=.dict 2 ((.str 29,.int zone)::(.str 122,eE)::(.str 120,.bool lone)::(.str 121,.bool near)::(.str 128,.bool br)::(.str 117,.tup (.int ai::w))::dO)∧(br=true→near=true∧br=false→False):=by
 cases K
 all_goals exact⟨_,_,_,_,_,rfl,λh h2=>by rw[h] at h2;cases h2.2⟩
theorem zU{zone ai:Int}{pr e1 e2:Nat}{br:Bool}{aW:List Nat}{so:O}(K:Kd zone ai pr e1 e2 br aW so){a b c d e f:V}{g:List (Nat × V)}:so≠aq a b c d e f g:=by
 refine HN (r9 K) λeE lone near w dO HW _=>?_
 refine ay HW ?_
 intro e;simp[aq] at e
theorem Out.bad{σ:aa}{ah:List Rw}{cnt now st:Int}{S s:Nat}{pk YZ Y0 rep0:V}{g:List (Nat × V)}(I:dj σ ah cnt)(J:cB σ ah cnt)(R:aN ah cnt)(cN:15≤S)(h:σ[S]? =some (aq pk (.int now) YZ Y0 rep0 (.loc 0) g)):
  Out σ ah S s now pk g .none st 0 (σ.set S (aq pk (.int now) .none (.int st) (.int 0) (.loc 0) g)) ah cnt:=by
 have C:Ch (KA S ah) σ (σ.set S (aq pk (.int now) .none (.int st) (.int 0) (.loc 0) g)):=(Ch.refl _ _).set _ (.inl rfl)
 exact⟨I.JE J cN h (λp hp=>(R.hi p hp).1) C,J.zM cN (λp hp=>i8 (J.ht p hp) h (λe=>cJ e.symm)),R,Ev.refl _,QY (Ch.refl _ _) C,_,cM _ _ _ (In.of h),.inl ⟨rfl,rfl,rfl⟩⟩
theorem MU{σ:aa}{ah:List Rw}{cnt now zone ai aE:Int}{pr e1 e2:Nat}{aW l:List Nat}{so:O}{S s pl:Nat}{mt:V}{g:List (Nat × V)}(N:Sn so ai pr e1 e2 aW aE zone)(L:Lk l ai pr e1 e2 aW aE)(hg:g.length≤800)(I:dj σ ah cnt)(J:cB σ ah cnt)(R:aN ah cnt)(aV:ah.length≤18)(oZ:15≤s)(hs:σ[s]? =some so)(cN:15≤S)
  (h:σ[S]? =some (aq (.loc pl) (.int now) .none (.int 1) (.int 0) (.loc 0) g))(hp:σ[pl]? =some (Cw l ai pr aE mt)):
  ∃rv st dir σ1 τ av mj,af P0 6 63 [.loc 12,.loc 13,.loc s,.int now] σ=some (.tup [rv,.int st,.int dir],σ1)∧σ1[s]? =some so∧af P0 6 51 [.loc S,.int zone] σ1=some (.none,τ)∧Out σ ah S s now (.loc pl) g rv st dir τ av mj:=by
 obtain⟨h1,h2,ne,K⟩:=N
 cases hb:brk aE pr with
 |true=>
  replace K:=(hb)▸K
  refine HN (r9 K) λeE lone near w dO HW hnb=>?_
  subst HW
  have e:=Cb 5 (k:= .loc 12) (c:= .loc 13) (now:= .int now) hs (.inl rfl)
  rw[aB (λh=>by cases h.2)] at e
  exact⟨_,_,_,σ,_,ah,cnt,e,hs,x7 hg h hp h1 h2 hb K L,Out.bad I J R cN h⟩
 |false=>
  rw[hb] at K
  rcases Hr h1 h2 ne hb K L with⟨q,rfl,hq,rfl,rfl,Oe,hpk⟩|⟨code,bu,hi,hc,hid,rfl,hcp⟩
  ·have e0:placeOf q.ai aE=0:=by rw[placeOf,aB (by rintro⟨_,rfl⟩;simp[brk] at hb)]
   have hoff:=nM q.ai
   unfold Cw at hp
   rw[e0,aC rfl,←Oe] at hp
   refine MQ hg I J R aV hq oZ hs cN h ?_
   by_cases hic:q.proto=1∨q.proto=58
   ·refine NP (hpk.2 hic) λkind k1 k2 k3 k4=>?_
    exact⟨l,_,_,_,kind,hp,fF _,by lia,L.le,hpk.1,λ_=>⟨by exact lD [_,_] 1 (.add vA (.num 8)) vB [.l 1 (.add vA (.num 8)) vB] aI (gh k1),by rw[Int.toNat_natCast];exact k2,k3,k4⟩⟩
   ·exact⟨l,_,_,_,0,hp,by exact fF _,by lia,L.le,hpk.1,λh=>absurd h hic⟩
  ·have e:=Cb 5 (k:= .loc 12) (c:= .loc 13) (now:= .int now) hs (.inr rfl)
   rw[(by simp:(if decide (j0 ai code=135)=true∧false=false then(64:Int) else 1)=if j0 ai code=135 then 64 else 1)] at e
   exact⟨_,_,_,σ,_,ah,cnt,e,hs,BC hg h hp h1 h2 J R hb hi hc hid hcp L,Out.bad I J R cN h⟩
theorem Out.off{σ:aa}{ah:List Rw}{cnt now st:Int}{S s:Nat}{pk:V}{g:List (Nat × V)}(I:dj σ ah cnt)(J:cB σ ah cnt)(R:aN ah cnt)(h:σ[S]? =some (aq pk (.int now) .none (.int st) (.int 0) (.loc 0) g)):
  Out σ ah S s now pk g .none st 0 σ ah cnt:=⟨I,J,R,Ev.refl _,Ch.refl _ _,_,h,.inl ⟨rfl,rfl,rfl⟩⟩
noncomputable def MV:List MS:=[.ite (.cmp (.call (.glob 145 (.fn 52)) [(.item (.var 20) (.lit (.int 0)))]) .ne (.call (.glob 146 (.fn 64)) [(.var 4),(.item (.var 20) (.lit (.int 1))),(.item (.var 20) (.lit (.int 2))),(.item (.var 20) (.lit (.int 3)))])) [.ret (.lit (.bool false))] []]
noncomputable abbrev VC:MS:= .assign 10 (.bin .mul (.lit (.int 5)) (.var 9))
noncomputable abbrev VD:MS:= .assign 8 (.bin .add (.bin .add (.var 8) (.item (YM 0 3000 500 100 200 40000 100 125000) (.var 9))) (.bin .mod (.call (.glob 127 (.fn 54)) [(.var 0),(.bin .add (.var 10) (.lit (.int 4)))]) (.lit (.int 200000))))
noncomputable abbrev VE:MS:= .unpack [11,12,13] (.call (.glob 140 (.fn 61)) [(.var 0),(.var 10),(.var 9)])
noncomputable abbrev VF:MS:= .setattr (.var 14) 40 (.var 1)
noncomputable abbrev TH:MS:= .unpack [15,16,17] (.tup [(.lit .none),(.lit (.int 64)),(.lit (.int 0))])
noncomputable abbrev QZ:MS:= .ite (.cmp (.var 12) .eq (.lit (.int 7))) [.setattr (.var 14) 33 (.lit (.int 64))] [.unpack [15,16,17] (.call (.glob 143 (.fn 63)) [(.var 4),(.var 5),(.var 11),(.var 8)])]
noncomputable abbrev TJ:MS:= .ite (.or [(.cmp (.call (.glob 144 (.fn 51)) [(.var 14),(.item (.var 11) (.lit (.str 29)))]) .qT (.lit .none)),(.cmp (.attr (.var 14) 33) .ne (.var 16)),(.cmp (.attr (.var 14) 72) .ne (.var 17))]) [.ret (.lit (.bool false))] []
noncomputable abbrev TL:MS:= .ite (.cmp (.cmp (.attr (.var 14) 70) .is (.lit .none)) .ne (.cmp (.var 15) .is (.lit .none))) [.ret (.lit (.bool false))] []
noncomputable abbrev Q0:MS:= .ite (.cmp (.bH .len 0 (.var 6)) .lt (.bH .len 0 (.var 4))) [.expr (.append (.var 6) (.attr (.var 14) 70))] []
noncomputable abbrev JF:MS:= .ite (.and [(.cmp (.var 15) .qT (.lit .none)),(.cmp (.attr (.attr (.var 14) 70) 26) .ne (.item (.var 15) (.lit (.str 26))))]) [.ret (.lit (.bool false))] []
noncomputable abbrev MW:MS:= .assign 18 (.bin .mod (.bin .fdiv (.call (.glob 127 (.fn 54)) [(.var 0),(.bin .add (.var 10) (.lit (.int 3)))]) (.lit (.int 4))) (.lit (.int 4)))
noncomputable abbrev MX:MS:= .assign 19 (.var 7)
noncomputable abbrev MY:MS:= .ite (.cmp (.var 18) .lt (.lit (.int 2))) [.assign 19 (.bin .add (.lst [(.tup [(.var 14),(.var 15),(.var 11),(.var 8)])]) (.var 7))] []
noncomputable abbrev MZ:MS:= .assign 7 (.ite (.cmp (.var 18) .eq (.lit (.int 3))) (.lst [(.tup [(.var 14),(.var 15),(.var 11),(.var 8)])]) (.lst []))
noncomputable abbrev M0:MS:= .for 20 (.var 19) MV
noncomputable abbrev M1:MS:= .ite (.not (.call (.glob 147 (.fn 66)) [(.var 1),(.var 4),(.var 5),(.var 6)])) [.ret (.lit (.bool false))] []
theorem M3:wK=[VC,VD,VE]:=rfl
theorem post_eq:rV=[VF,TH,QZ,TJ,TL,Q0,JF,MW,MX,MY,MZ,M0,M1]:=rfl
section
variable (call:Call) {σ:aa}
theorem u1{e0 e1 e2 e3 e4 e5 e6 e7 e8 fE fX dX dM jw gU eg ek eu dS dK:Option V}{k a:Int}(hm:binI .mul 5 k=some a)(r:List MS):aP call [e0,e1,e2,e3,e4,e5,e6,e7,e8,some (.int k),fE,fX,dX,dM,jw,gU,eg,ek,eu,dS,dK] (VC::r) σ=aP call [e0,e1,e2,e3,e4,e5,e6,e7,e8,some (.int k),some (.int a),fX,dX,dM,jw,gU,eg,ek,eu,dS,dK] r σ:=by
 exact bC (r7 λφ=>φ (aj (Option.map V.int) hm)) rfl
theorem u2{e1 e2 e3 e4 e5 e6 e7 fX dX dM jw gU eg ek eu dS dK:Option V}{S:V}{k a c d now:Int}(hI:cH (.lst [.int 0,.int 3000,.int 500,.int 100,.int 200,.int 40000,.int 100,.int 125000]) (.int k) σ=some (.int c))(h:call 54 [S,.int (a+4)] σ=some (.int d,σ))(r:List MS):aP call [some S,e1,e2,e3,e4,e5,e6,e7,some (.int now),some (.int k),some (.int a),fX,dX,dM,jw,gU,eg,ek,eu,dS,dK] (VD::r) σ=aP call [some S,e1,e2,e3,e4,e5,e6,e7,some (.int (now+c+d.fmod 200000)),some (.int k),some (.int a),fX,dX,dM,jw,gU,eg,ek,eu,dS,dK] r σ:=by
 exact bC (r7 λφ=>φ hI rfl rfl h rfl rfl) rfl
theorem u3{e1 e2 e3 e4 e5 e6 e7 e8 fX dX dM jw gU eg ek eu dS dK:Option V}{S a k x y z:V}{τ:aa}(h:call 61 [S,a,k] σ=some (.tup [x,y,z],τ))(r:List MS):aP call [some S,e1,e2,e3,e4,e5,e6,e7,e8,some k,some a,fX,dX,dM,jw,gU,eg,ek,eu,dS,dK] (VE::r) σ=aP call [some S,e1,e2,e3,e4,e5,e6,e7,e8,some k,some a,some x,some y,some z,jw,gU,eg,ek,eu,dS,dK] r τ:=by
 exact bC (r7 λφ=>φ h) rfl
theorem u4{e0 e2 e3 e4 e5 e6 e7 e8 e9 fE fX dX dM gU eg ek eu dS dK:Option V}{s:Nat}{pk now:V}{bk:V}{g:List (Nat × V)}(hg:g.length≤800)(h:σ[s]? =some (aq pk now .none (.int 1) (.int 0) .none g))(r:List MS):aP call [e0,some bk,e2,e3,e4,e5,e6,e7,e8,e9,fE,fX,dX,dM,some (.loc s),gU,eg,ek,eu,dS,dK] (VF::r) σ=aP call [e0,some bk,e2,e3,e4,e5,e6,e7,e8,e9,fE,fX,dX,dM,some (.loc s),gU,eg,ek,eu,dS,dK] r (σ.set s (aq pk now .none (.int 1) (.int 0) bk g)):=by
 have hl':g.length+1+1+1+1+1+1+1≤900:=Sq hg
 exact bC (r7 λφ=>φ (sA h hl')) rfl
theorem u5{e0 e1 e2 e3 e4 e5 e6 e7 e8 e9 fE fX dX dM jw gU eg ek eu dS dK:Option V}(r:List MS):aP call [e0,e1,e2,e3,e4,e5,e6,e7,e8,e9,fE,fX,dX,dM,jw,gU,eg,ek,eu,dS,dK] (TH::r) σ=aP call [e0,e1,e2,e3,e4,e5,e6,e7,e8,e9,fE,fX,dX,dM,jw,some .none,some (.int 64),some (.int 0),eu,dS,dK] r σ:=by
 rfl
theorem Y3{e0 e1 e2 e3 e4 e5 e6 e7 e8 e9 fE fX dM gU eg ek eu dS dK:Option V}{s:Nat}{pk now bk:V}{g:List (Nat × V)}(hg:g.length≤800)(h:σ[s]? =some (aq pk now .none (.int 1) (.int 0) bk g))(r:List MS):aP call [e0,e1,e2,e3,e4,e5,e6,e7,e8,e9,fE,fX,some (.int 7),dM,some (.loc s),gU,eg,ek,eu,dS,dK] (QZ::r) σ=aP call [e0,e1,e2,e3,e4,e5,e6,e7,e8,e9,fE,fX,some (.int 7),dM,some (.loc s),gU,eg,ek,eu,dS,dK] r (σ.set s (aq pk now .none (.int 64) (.int 0) bk g)):=by
 have hl':g.length+1+1+1+1+1+1+1≤900:=Sq hg
 exact bC (r7 λφ=>φ rfl (sA h hl')) rfl
theorem Y4{e0 e1 e2 e3 e6 e7 e9 fE dM jw gU eg ek eu dS dK:Option V}{v4 v5 v8 v11 rv st dir:V}{aE:Int}{τ:aa}(hf:aE≠7)(h:call 63 [v4,v5,v11,v8] σ=some (.tup [rv,st,dir],τ))(r:List MS):aP call [e0,e1,e2,e3,some v4,some v5,e6,e7,some v8,e9,fE,some v11,some (.int aE),dM,jw,gU,eg,ek,eu,dS,dK] (QZ::r) σ=aP call [e0,e1,e2,e3,some v4,some v5,e6,e7,some v8,e9,fE,some v11,some (.int aE),dM,jw,some rv,some st,some dir,eu,dS,dK] r τ:=by
 exact bC (r7 λφ=>φ (gn hf) h) rfl
theorem u7{e0 e1 e2 e3 e4 e5 e6 e7 e8 e9 fE dX dM gU eu dS dK:Option V}{s S:Nat}{es:List (V × V)}{zone:V}{pk now tv bk:V}{st dir:Int}{g:List (Nat × V)}{τ:aa}(hs:σ[s]? =some (.dict 2 es))(hz:aQ es (.str 29)=some zone)(h:call 51 [.loc S,zone] σ=some (.none,τ))(hS:τ[S]? =some (aq pk now tv (.int st) (.int dir) bk g))(r:List MS):aP call [e0,e1,e2,e3,e4,e5,e6,e7,e8,e9,fE,some (.loc s),dX,dM,some (.loc S),gU,some (.int st),some (.int dir),eu,dS,dK] (TJ::r) σ=aP call [e0,e1,e2,e3,e4,e5,e6,e7,e8,e9,fE,some (.loc s),dX,dM,some (.loc S),gU,some (.int st),some (.int dir),eu,dS,dK] r τ:=by
 exact bC (r7 λφ=>φ (bq hs hz) h rfl (gA hS rfl) (uT rfl) (gA hS rfl) (uT rfl)) rfl
theorem u8{e0 e1 e2 e3 e4 e5 e6 e7 e8 e9 fE fX dX dM eg ek eu dS dK:Option V}{S:Nat}{pk now tv rv st dir bk:V}{g:List (Nat × V)}(hS:σ[S]? =some (aq pk now tv st dir bk g))(ht:(tv=.none∧rv=.none)∨∃a b:Nat,tv=.loc a∧rv=.loc b)(r:List MS):aP call [e0,e1,e2,e3,e4,e5,e6,e7,e8,e9,fE,fX,dX,dM,some (.loc S),some rv,eg,ek,eu,dS,dK] (TL::r) σ=aP call [e0,e1,e2,e3,e4,e5,e6,e7,e8,e9,fE,fX,dX,dM,some (.loc S),some rv,eg,ek,eu,dS,dK] r σ:=by
 rcases ht with⟨rfl,rfl⟩|⟨a,b,rfl,rfl⟩<;>exact bC (r7 λφ=>φ (gA hS rfl) rfl rfl rfl) rfl
theorem Y5{e0 e1 e2 e3 e5 e7 e8 e9 fE fX dX dM gU eg ek eu dS dK:Option V}{S x y:Nat}{pk now tv st dir bk:V}{g:List (Nat × V)}{l6 l4:List V}(hS:σ[S]? =some (aq pk now tv st dir bk g))(h6:σ[x]? =some (.list l6))(h4:σ[y]? =some (.list l4))(hl:l4.length=l6.length+1)(mh:l4.length≤20)(r:List MS):aP call [e0,e1,e2,e3,some (.loc y),e5,some (.loc x),e7,e8,e9,fE,fX,dX,dM,some (.loc S),gU,eg,ek,eu,dS,dK] (Q0::r) σ=aP call [e0,e1,e2,e3,some (.loc y),e5,some (.loc x),e7,e8,e9,fE,fX,dX,dM,some (.loc S),gU,eg,ek,eu,dS,dK] r (σ.set x (.list (l6++[tv]))):=by
 exact bC (r7 λφ=>φ (Gr h6 (by exact cP [_,_] 1 vA (.num 100000) [.f 1 vB (.add vA (.num 1)),.l 1 vB (.num 20)] aI hl mh)) (Gr h4 (cV ‹_› (aD rfl))) (Mp (by exact ltI [_,_] 1 vA vB [.f 1 vB (.add vA (.num 1))] aI (aj Int.ofNat hl))) (O5 h6) (gA hS rfl) (ap h6 (by exact ltN [_,_] 1 vA (.num 1000) [.f 1 vB (.add vA (.num 1)),.l 1 vB (.num 20)] aI hl mh))) rfl
theorem VG{e0 e1 e2 e3 e5 e7 e8 e9 fE fX dX dM jw gU eg ek eu dS dK:Option V}{x y:Nat}{l6 l4:List V}(h6:σ[x]? =some (.list l6))(h4:σ[y]? =some (.list l4))(hl:l4.length=l6.length)(mh:l4.length≤20)(r:List MS):aP call [e0,e1,e2,e3,some (.loc y),e5,some (.loc x),e7,e8,e9,fE,fX,dX,dM,jw,gU,eg,ek,eu,dS,dK] (Q0::r) σ=aP call [e0,e1,e2,e3,some (.loc y),e5,some (.loc x),e7,e8,e9,fE,fX,dX,dM,jw,gU,eg,ek,eu,dS,dK] r σ:=by
 exact bC (r7 λφ=>φ (Gr h6 (by exact cP [_,_] 1 vA (.num 100000) [.f 1 vB vA,.l 1 vB (.num 20)] aI hl mh)) (Gr h4 (cV ‹_› (aD rfl))) (Eb (hl▸Int.lt_irrefl _))) rfl
theorem TM{e0 e1 e2 e3 e4 e5 e6 e7 e8 e9 fE fX dX dM jw eg ek eu dS dK:Option V}(r:List MS):aP call [e0,e1,e2,e3,e4,e5,e6,e7,e8,e9,fE,fX,dX,dM,jw,some .none,eg,ek,eu,dS,dK] (JF::r) σ=aP call [e0,e1,e2,e3,e4,e5,e6,e7,e8,e9,fE,fX,dX,dM,jw,some .none,eg,ek,eu,dS,dK] r σ:=by
 rfl
theorem P9{e0 e1 e2 e3 e4 e5 e6 e7 e8 e9 fE fX dX dM eg ek eu dS dK:Option V}{S a b:Nat}{pk now st dir bk:V}{g:List (Nat × V)}{d:Dt}(hS:σ[S]? =some (aq pk now (.loc a) st dir bk g))(ha:σ[a]? =some (aK d))(hb:σ[b]? =some (cj d))(r:List MS):aP call [e0,e1,e2,e3,e4,e5,e6,e7,e8,e9,fE,fX,dX,dM,some (.loc S),some (.loc b),eg,ek,eu,dS,dK] (JF::r) σ=aP call [e0,e1,e2,e3,e4,e5,e6,e7,e8,e9,fE,fX,dX,dM,some (.loc S),some (.loc b),eg,ek,eu,dS,dK] r σ:=by
 exact bC (r7 λφ=>φ rfl (gA hS rfl) (gA ha rfl) (bq hb rfl) (uT rfl)) rfl
theorem Y6{e1 e2 e3 e4 e5 e6 e7 e8 e9 fX dX dM jw gU eg ek eu dS dK:Option V}{S:V}{a d:Int}(h:call 54 [S,.int (a+3)] σ=some (.int d,σ))(r:List MS):aP call [some S,e1,e2,e3,e4,e5,e6,e7,e8,e9,some (.int a),fX,dX,dM,jw,gU,eg,ek,eu,dS,dK] (MW::r) σ=aP call [some S,e1,e2,e3,e4,e5,e6,e7,e8,e9,some (.int a),fX,dX,dM,jw,gU,eg,ek,some (.int ((d.fdiv 4).fmod 4)),dS,dK] r σ:=by
 exact bC (r7 λφ=>φ rfl h rfl rfl) rfl
theorem Y7{e0 e1 e2 e3 e4 e5 e6 e8 e9 fE fX dX dM jw gU eg ek eu dS dK:Option V}{v:V}(r:List MS):aP call [e0,e1,e2,e3,e4,e5,e6,some v,e8,e9,fE,fX,dX,dM,jw,gU,eg,ek,eu,dS,dK] (MX::r) σ=aP call [e0,e1,e2,e3,e4,e5,e6,some v,e8,e9,fE,fX,dX,dM,jw,gU,eg,ek,eu,some v,dK] r σ:=by
 rfl
theorem Y8{e0 e1 e2 e3 e4 e5 e6 e9 fE dX dM eg ek dK:Option V}{a b c d:V}{w:List V}{keep:Int}(hw:w.length≤10)(r:List MS):aP call [e0,e1,e2,e3,e4,e5,e6,some (.lst w),some d,e9,fE,some c,dX,dM,some a,some b,eg,ek,some (.int keep),some (.lst w),dK] (MY::r) σ=aP call [e0,e1,e2,e3,e4,e5,e6,some (.lst w),some d,e9,fE,some c,dX,dM,some a,some b,eg,ek,some (.int keep),some (.lst (if keep<2 then .tup [a,b,c,d]::w else w)),dK] r σ:=by
 by_cases h:keep<2
 ·rw[aC h];exact bC (r7 λφ=>φ (Mp h) (aC ⟨rfl,cV (Nat.add_le_add_left hw 1) (by decide)⟩)) rfl
 ·rw[aB h];exact bC (r7 λφ=>φ (Eb h)) rfl
theorem Y9{e0 e1 e2 e3 e4 e5 e6 e7 e9 fE dX dM eg ek dS dK:Option V}{a b c d:V}{keep:Int}(r:List MS):aP call [e0,e1,e2,e3,e4,e5,e6,e7,some d,e9,fE,some c,dX,dM,some a,some b,eg,ek,some (.int keep),dS,dK] (MZ::r) σ=aP call [e0,e1,e2,e3,e4,e5,e6,some (.lst (if keep=3 then [.tup [a,b,c,d]] else [])),some d,e9,fE,some c,dX,dM,some a,some b,eg,ek,some (.int keep),dS,dK] r σ:=by
 by_cases h:keep=3
 ·rw[aC h];exact bC (r7 λφ=>φ (eqT h)) rfl
 ·rw[aB h];exact bC (r7 λφ=>φ (gn h)) rfl
theorem Za{e0 e2 e3 e7 e8 e9 fE fX dX dM jw gU eg ek eu dS dK:Option V}{a b c d:V}{τ:aa}(h:call 66 [a,b,c,d] σ=some (.bool true,τ))(r:List MS):aP call [e0,some a,e2,e3,some b,some c,some d,e7,e8,e9,fE,fX,dX,dM,jw,gU,eg,ek,eu,dS,dK] (M1::r) σ=aP call [e0,some a,e2,e3,some b,some c,some d,e7,e8,e9,fE,fX,dX,dM,jw,gU,eg,ek,eu,dS,dK] r τ:=by
 exact bC (r7 λφ=>φ h) rfl
end
theorem Cj.keep{M:Nat→Prop}{σ τ:aa}{ah av:List Rw}{S s:Nat}{rv:V}{now:Int}(W:Cj σ ah S rv s now)(E:Ev ah av)(k1:∀a b c d e f g,σ[S]? =some (aq a b c d e f g)→τ[S]? =some (aq a b c d e f g))(k2:∀q,σ[s]? =some (bR q)→τ[s]? =some (bR q)):Cj τ av S rv s now:=by
 refine dY λG hG=>?_
 obtain⟨h1,h2,pk,st,gy,g,hg,h⟩:=W
 refine hG ?_
 refine⟨h1,h2,pk,st,gy,g,hg,?_⟩
 rcases h with⟨h3,h4⟩|⟨p,hp,h3,h4,h5⟩
 ·exact .inl ⟨h3,k1 _ _ _ _ _ _ _ h4⟩
 ·refine KU (E p hp) λp' m a1 a2 a3 a4 a5=>?_
  exact .inr ⟨p',m,by rw[a1];exact h3,by rw[a2];exact k1 _ _ _ _ _ _ _ h4,λe=>by rw[a3];exact k2 _ (h5 (a5 e))⟩
theorem zV{σ τ:aa}{ah:List Rw}{cnt:Int}{i:Nat}{o:O}(I:dj σ ah cnt)(J:cB σ ah cnt)(C:Ch (MA ah) σ τ)(h:σ[i]? =some o)(h1:∀d,o≠cj d)(h2:∀l,o≠ .list l)(h3:∀d,o≠aK d)(cN:11≤i):τ[i]? =some o:=by
 refine C.get h ?_
 rintro((rfl|rfl|⟨p,hp,rfl⟩)|h|h|h|⟨p,hp,rfl⟩)
 ·exact h2 _ (aX (h.symm.trans I.h12))
 ·exact h2 _ (aX (h.symm.trans I.qj))
 ·exact h1 _ (aX (h.symm.trans (I.hr p hp)))
 ·exact bO [_] [.l 1 (.num 11) vA,.e 1 vA (.num 0)] aI cN h
 ·exact bO [_] [.l 1 (.num 11) vA,.e 1 vA (.num 1)] aI cN h
 ·exact bO [_] [.l 1 (.num 11) vA,.e 1 vA (.num 2)] aI cN h
 ·exact h3 _ (aX (h.symm.trans (J.ht p hp)))
theorem rI(a b c d e f:V)(g:List (Nat × V)):(∀x,aq a b c d e f g≠cj x)∧(∀l,aq a b c d e f g≠ .list l)∧∀x,aq a b c d e f g≠aK x:=
 ⟨λx=>jJ,(λl e=>by cases e),λx=>cJ⟩
theorem uD(q:Q):(∀x,bR q≠cj x)∧(∀l,bR q≠ .list l)∧∀x,bR q≠aK x:=
 ⟨λx e=>iM _ _ e.symm,(λl e=>by cases e),λx=>jK⟩
theorem Cj.zV{σ τ:aa}{ah av:List Rw}{cnt:Int}{S s:Nat}{rv:V}{now:Int}(I:dj σ ah cnt)(J:cB σ ah cnt)(W:Cj σ ah S rv s now)(E:Ev ah av)(C:Ch (MA ah) σ τ):Cj τ av S rv s now:=by
 have a:=W.1
 have b:=W.2.1
 refine W.keep (M:=λ_=>False) E (λa1 a2 a3 a4 a5 a6 a7 h=>?_) (λq h=>?_)
 ·refine gj (rI a1 a2 a3 a4 a5 a6 a7) λx y z=>?_
  exact Mine.L.zV I J C h x y z (by exact cP [_] 1 (.num 11) vA [.l 1 (.num 15) vA] aI a)
 ·refine gj (uD q) λx y z=>?_
  exact Mine.L.zV I J C h x y z (by exact cP [_] 1 (.num 11) vA [.l 1 (.num 15) vA] aI b)
theorem Zb{v:V}:some (!decide (v=v))=some false:=aj (λb=>some (!b)) (fk rfl)
theorem JG{v:V}(h:bl 6 v=true)(σ:aa):cX .ne v v σ=some false:=by
 have key:∀o:Option Bool,(if bl 6 v&&bl 6 v then some (!decide (v=v)) else o)=some false:=λo=>(aC (Bool.and_eq_true_iff.mpr ⟨h,h⟩)).trans Zb
 cases v<;>first|exact key none|exact aj (λb=>some (!b)) (fk rfl)
theorem JH{ah av:List Rw}(h:av.map (·.rl)=ah.map (·.rl))(h':av.map (·.tl)=ah.map (·.tl)):∀i,MA av i→MA ah i:=λi hi=>hi.imp (Jf h i) (Jg h' i)
noncomputable def wo(S:Nat)(rv:V)(s:Nat)(now:Int):V:= .tup [.loc S,rv,.loc s,.int now]
theorem Hv{e0 e1 e2 e3 e5 e6 e7 e8 e9 fE fX dX dM jw gU eg ek eu dS:Option V}{rv t:V}{S s:Nat}{now:Int}{call:Call}{σ σ1 τ:aa}{v:V}(ht:t=wo S rv s now)(c1:call 52 [.loc S] σ=some (v,σ1))(c2:call 64 [.loc 12,rv,.loc s,.int now] σ1=some (v,τ))(hf:bl 6 v=true):
  aP call [e0,e1,e2,e3,some (.loc 12),e5,e6,e7,e8,e9,fE,fX,dX,dM,jw,gU,eg,ek,eu,dS,some t] MV σ=some (.next,[e0,e1,e2,e3,some (.loc 12),e5,e6,e7,e8,e9,fE,fX,dX,dM,jw,gU,eg,ek,eu,dS,some t],τ):=by
 refine ay ht ?_
 exact nH λφ=>φ rfl c1 rfl rfl rfl c2 (JG hf τ)
theorem turns{e0 e1 e2 e3 e5 e6 e7 e8 e9 fE fX dX dM jw gU eg ek eu dS:Option V}{w0:List V}{gm:aa}{cnt:Int}:∀(w:List V){σ:aa}{ah:List Rw}(dK:Option V),dj σ ah cnt→cB σ ah cnt→aN ah cnt→ah.length≤20→(∀t∈w,∃S rv s now,t=wo S rv s now∧Cj σ ah S rv s now)→
  ∃τ av D5,zB (af P0 6) 20 MV (.lst w0) gm w [e0,e1,e2,e3,some (.loc 12),e5,e6,e7,e8,e9,fE,fX,dX,dM,jw,gU,eg,ek,eu,dS,dK] σ=some (.next,[e0,e1,e2,e3,some (.loc 12),e5,e6,e7,e8,e9,fE,fX,dX,dM,jw,gU,eg,ek,eu,dS,D5],τ)∧dj τ av cnt∧cB τ av cnt∧aN av cnt∧Ev ah av∧av.map (·.rl)=ah.map (·.rl)∧av.map (·.tl)=ah.map (·.tl)∧Ch (MA ah) σ τ
 | [],σ,ah,dK,I,J,R,hl,hw=>⟨σ,ah,dK,rfl,I,J,R,Ev.refl _,rfl,rfl,Ch.refl _ _⟩
 |t::w,σ,ah,dK,I,J,R,hl,hw=>by
  refine dY λG hG=>?_
  refine NR (hw t (by simp)) λS rv s now ht W=>?_
  obtain⟨v,σ1,τ,qb,c1,c2,hf,I1,J1,R1,E1,m1,m2,C1⟩:=xU I J R hl W
  refine hG ?_
  have n9:qb.length≤20:=by
   have:=aj List.length m1
   simp at this;exact(cV (cG this) hl)
  obtain⟨yX,Qa,D5,e,I2,J2,R2,E2,n1,n2,C2⟩:=turns w (dK:=some t) I1 J1 R1 n9 (λt' ht'=>by
   refine NR (hw t' (by simp[ht'])) λS' TN s' qg h1 h2=>?_
   exact⟨S',TN,s',qg,h1,h2.zV I J E1 C1⟩)
  exact⟨yX,Qa,D5,(r5 rfl (Hv ht c1 c2 hf)).trans e,I2,J2,R2,E1.trans E2,n1.trans m1,n2.trans m2,C1.trans (C2.mono (JH m1 m2))⟩
theorem tracked{e0 e1 e2 e3 e6 e7 e9 fE dM gU eg ek eu dS dK:Option V}{σ:aa}{ah:List Rw}{cnt now zone ai aE:Int}{pr yd yR:Nat}{aW l:List Nat}{so:O}{S s pl:Nat}{mt:V}{g:List (Nat × V)}(N:Sn so ai pr yd yR aW aE zone)(L:Lk l ai pr yd yR aW aE)(hg:g.length≤800)(I:dj σ ah cnt)(J:cB σ ah cnt)(R:aN ah cnt)(aV:ah.length≤18)(oZ:15≤s)(hs:σ[s]? =some so)(cN:15≤S)
  (h:σ[S]? =some (aq (.loc pl) (.int now) .none (.int 1) (.int 0) (.loc 0) g))(hp:σ[pl]? =some (Cw l ai pr aE mt)):
  ∃rv st dir τ av mj,(∀r,aP (af P0 6) [e0,e1,e2,e3,some (.loc 12),some (.loc 13),e6,e7,some (.int now),e9,fE,some (.loc s),some (.int aE),dM,some (.loc S),gU,eg,ek,eu,dS,dK] (TH::QZ::TJ::r) σ=aP (af P0 6) [e0,e1,e2,e3,some (.loc 12),some (.loc 13),e6,e7,some (.int now),e9,fE,some (.loc s),some (.int aE),dM,some (.loc S),some rv,some (.int st),some (.int dir),eu,dS,dK] r τ)∧Out σ ah S s now (.loc pl) g rv st dir τ av mj:=by
 refine HN (r9 N.kd) λeE lone near w dO hso _=>?_
 by_cases h7:aE=7
 ·refine ay h7 ?_
  have hS:=cM S σ (aq (.loc pl) (.int now) .none (.int 64) (.int 0) (.loc 0) g) (In.of h)
  have jF:(σ.set S (aq (.loc pl) (.int now) .none (.int 64) (.int 0) (.loc 0) g))[s]? =some so:=by rw[bh _ _ _ _ (i8 hs h (zU N.kd)).symm];exact hs
  rw[hso] at jF
  refine⟨.none,64,0,_,ah,cnt,λr=>?_,Out.bad I J R cN h⟩
  rw[u5,Y3 _ hg h,u7 _ jF (by rfl) (IZ 5 S hS) hS]
 ·obtain⟨rv,st,dir,σ1,τ,av,mj,MR,hs1,MT,O⟩:=MU N L hg I J R aV oZ hs cN h hp
  refine aA O.sc λtv hS _=>?_
  rw[hso] at hs1
  refine⟨rv,st,dir,τ,av,mj,λr=>?_,O⟩
  rw[u5,Y4 _ h7 MR,u7 _ hs1 (by rfl) MT hS]
theorem held{e0 e1 e2 e3 e5 e7 e8 e9 fE fX dX dM eg ek eu dS dK:Option V}{σ τ:aa}{ah av:List Rw}{mj now st dir:Int}{S s:Nat}{pk rv:V}{g:List (Nat × V)}(O:Out σ ah S s now pk g rv st dir τ av mj)(cN:15≤S)(hR:∀p∈ah,15≤p.rl∧15≤p.tl)(rE:σ[14]? =some (.list (ah.map λp=>V.loc p.tl)))(aV:ah.length≤18)(hg:g.length≤800)(oZ:15≤s):
  ∃yX,(∀r,aP (af P0 6) [e0,e1,e2,e3,some (.loc 12),e5,some (.loc 14),e7,e8,e9,fE,fX,dX,dM,some (.loc S),some rv,eg,ek,eu,dS,dK] (TL::Q0::JF::r) τ=aP (af P0 6) [e0,e1,e2,e3,some (.loc 12),e5,some (.loc 14),e7,e8,e9,fE,fX,dX,dM,some (.loc S),some rv,eg,ek,eu,dS,dK] r yX)∧dj yX av mj∧cB yX av mj∧yX[14]? =some (.list (av.map λp=>V.loc p.tl))∧Ch (λi=>i=14) τ yX∧av.length≤ah.length+1∧Cj yX av S rv s now:=by
 obtain⟨L,J,R,E,C,tv,hS,hsc⟩:=O
 have pY:τ[14]? =some (.list (ah.map λp=>V.loc p.tl)):=by
  refine C.get rE ?_
  rintro(h|(h|h|⟨p,hp,h⟩)|h|h|h|⟨p,hp,h⟩)
  ·exact bO [_] [.l 1 (.num 15) vA,.f 1 (.num 14) vA] aI cN h
  ·exact bO [] [.e 1 (.num 14) (.num 12)] aI h
  ·exact bO [] [.e 1 (.num 14) (.num 13)] aI h
  ·have:=(hR p hp).1;exact bO [_] [.f 1 (.num 14) vA,.l 1 (.num 15) vA] aI h this
  ·exact bO [] [.e 1 (.num 14) (.num 0)] aI h
  ·exact bO [] [.e 1 (.num 14) (.num 1)] aI h
  ·exact bO [] [.e 1 (.num 14) (.num 2)] aI h
  ·have:=(hR p hp).2;exact bO [_] [.f 1 (.num 14) vA,.l 1 (.num 15) vA] aI h this
 have mm:∀l:List Rw,l.map (λp=>V.loc p.tl)=(l.map (·.tl)).map V.loc:=λl=>by rw[List.map_map];rfl
 have M4:(av.map λp=>V.loc p.rl).length=av.length:=by simp
 have Qc:(ah.map λp=>V.loc p.tl).length=ah.length:=by simp
 rcases hsc with⟨rfl,rfl,hm⟩|⟨p,hp,rfl,rfl,h0,hm⟩
 ·have hl:av.length=ah.length:=by have:=aj List.length hm;simpa using this
  refine⟨τ,λr=>?_,L,J,by rw[pY,mm,mm,hm],Ch.refl _ _,by exact cP [_,_] 1 vA (.add vB (.num 1)) [.e 1 vA vB] aI hl,cN,oZ,pk,_,_,g,hg,.inl ⟨rfl,hS⟩⟩
  rw[u8 _ hS (.inl ⟨rfl,rfl⟩),VG _ pY L.h12 (by omega) (by omega),TM]
 ·have ht:=J.ht p hp
  have hr:=L.hr p hp
  rcases hm with hm|hm
  ·have hl:av.length=ah.length:=by have:=aj List.length hm;simpa using this
   refine⟨τ,λr=>?_,L,J,by rw[pY,mm,mm,hm],Ch.refl _ _,by exact cP [_,_] 1 vA (.add vB (.num 1)) [.e 1 vA vB] aI hl,cN,oZ,pk,_,_,g,hg,.inr ⟨p,hp,rfl,hS,h0⟩⟩
   rw[u8 _ hS (.inr ⟨_,_,rfl,rfl⟩),VG _ pY L.h12 (by omega) (by omega),P9 _ hS ht hr]
  ·have hl:av.length=ah.length+1:=by have:=aj List.length hm;simpa using this
   have C2:Ch (λi=>i=14) τ (τ.set 14 (.list ((ah.map λp=>V.loc p.tl)++[.loc p.tl]))):=(Ch.refl _ _).set _ rfl
   have k:∀{i:Nat}{o:O},i≠14→τ[i]? =some o→(τ.set 14 (.list ((ah.map λp=>V.loc p.tl)++[.loc p.tl])))[i]? =some o:=λhi h=>C2.get h hi
   have L2:=L.frame C2 (by exact l5 rfl) (by exact l5 rfl) λp hp=>by have:=(R.hi p hp).1;exact λbT=>bO [_] [.l 1 (.num 15) vA,.e 1 vA (.num 14)] aI this bT
   have J2:=J.frame C2 (λi hi=>by exact λbT=>bO [_] [.l 1 vA (.num 10),.f 1 vA (.num 14)] aI hi bT) λp hp=>by have:=(R.hi p hp).2;exact λbT=>bO [_] [.l 1 (.num 15) vA,.e 1 vA (.num 14)] aI this bT
   have yc:=k (by exact λbT=>bO [_] [.l 1 (.num 15) vA,.e 1 vA (.num 14)] aI cN bT) hS
   refine⟨_,λr=>?_,L2,J2,?_,C2,by exact cG hl,cN,oZ,pk,_,_,g,hg,.inr ⟨p,hp,rfl,yc,λh=>k (by exact λbT=>bO [_] [.l 1 (.num 15) vA,.e 1 vA (.num 14)] aI oZ bT) (h0 h)⟩⟩
   ·rw[u8 _ hS (.inr ⟨_,_,rfl,rfl⟩),Y5 _ hS pY L.h12 (by exact dH (cP [_,_,_,_] 1 vA (.add vB (.num 1)) [.e 1 vA vC,.f 1 vB vD,.e 1 vC (.add vD (.num 1))] aI M4 Qc hl) (cP [_,_,_,_] 1 (.add vA (.num 1)) vB [.f 1 vB vC,.e 1 vA vD,.f 1 vC (.add vD (.num 1))] aI M4 Qc hl)) (by exact cP [_,_,_] 1 vA (.num 20) [.l 1 vB (.num 18),.e 1 vA vC,.e 1 vC (.add vB (.num 1))] aI aV M4 hl),P9 _ yc (J2.ht p hp) (L2.hr p hp)]
   ·rw[cM _ _ _ (In.of pY),mm,mm,hm];simp
structure Inv(σ:aa)(ah:List Rw)(cnt:Int)(w:List V):Prop where
 L:dj σ ah cnt
 P:cB σ ah cnt
 R:aN ah cnt
 rE:σ[14]? =some (.list (ah.map λp=>V.loc p.tl))
 len:w.length≤1
 wt:∀t∈w,∃S rv s now,t=wo S rv s now∧Cj σ ah S rv s now
theorem TP{k:Nat}(hk:k<8):binI .mul 5 (k:Int)=some ((5*k:Nat):Int):=by
 have:=Vs k hk
 rcases this with rfl|rfl|rfl|rfl|rfl|rfl|rfl|rfl<;>rfl
theorem M5{ah:List Rw}{cnt:Int}(R:aN ah cnt):¬MA ah 14:=by
 rintro((h|h|⟨p,hp,h⟩)|h|h|h|⟨p,hp,h⟩)
 ·trivial
 ·trivial
 ·have:=(R.hi p hp).1;exact bO [_] [.f 1 (.num 14) vA,.l 1 (.num 15) vA] aI h this
 ·trivial
 ·trivial
 ·trivial
 ·have:=(R.hi p hp).2;exact bO [_] [.f 1 (.num 14) vA,.l 1 (.num 15) vA] aI h this
theorem Ch.fresh{M N:Nat→Prop}{σ τ:aa}(C:Ch N σ τ)(h:∀i,i<σ.length→N i→M i):Ch M σ τ:=⟨C.len,λi hi hm=>C.old i hi λhn=>hm (h i hi hn)⟩
theorem JI{σ:aa}{ah:List Rw}{cnt:Int}(I:dj σ ah cnt)(J:cB σ ah cnt)(R:aN ah cnt)(rE:σ[14]? =some (.list (ah.map λp=>V.loc p.tl)))(aV:ah.length≤20):∃τ,af P0 6 66 [.loc 0,.loc 12,.loc 13,.loc 14] σ=some (.bool true,σ++τ):=by
 refine fj J.hT λkT tab hT z0 hp=>?_
 refine fj J.hK λkK dR hK hkK hq=>?_
 exact Yz 4 J.hB hT (z0.elim .inr λh=> .inl h.1) hK hkK I.h12 I.qj rE (λp hp=>⟨J.ht p hp,I.hr p hp⟩) R.nd hp hq (lZ R.inc) aV
theorem dj.app{σ:aa}{ah:List Rw}{cnt:Int}(I:dj σ ah cnt)(c:aa):dj (σ++c) ah cnt:=
 I.frame (M:=λ_=>False) ((Ch.refl _ _).app c) id id λ_ _=>id
theorem ending{e2 e3 e9 dX dM eg ek eu dS dK:Option V}{script:List Int}(hl:script.length≤63){k:Nat}(hk:k<8){σ:aa}{ah:List Rw}{cnt now:Int}{S s:Nat}{rv:V}{w:List V}(I:dj σ ah cnt)(J:cB σ ah cnt)(R:aN ah cnt)(rE:σ[14]? =some (.list (ah.map λp=>V.loc p.tl)))(aV:ah.length≤20)(hw:w.length≤1)(wt:∀t∈w,∃S rv s now,t=wo S rv s now∧Cj σ ah S rv s now)(W:Cj σ ah S rv s now):
  ∃τ av w' M6 M7 D5,aP (af P0 6) [some (sc script),some (.loc 0),e2,e3,some (.loc 12),some (.loc 13),some (.loc 14),some (.lst w),some (.int now),e9,some (.int ((5*k:Nat):Int)),some (.loc s),dX,dM,some (.loc S),some rv,eg,ek,eu,dS,dK] [MW,MX,MY,MZ,M0,M1] σ=some (.next,[some (sc script),some (.loc 0),e2,e3,some (.loc 12),some (.loc 13),some (.loc 14),some (.lst w'),some (.int now),e9,some (.int ((5*k:Nat):Int)),some (.loc s),dX,dM,some (.loc S),some rv,eg,ek,M6,M7,D5],τ)∧Inv τ av cnt w'∧av.length=ah.length:=by
 have d3:=Nm 5 (script:=script) (j:=5*k+3) hl (by exact ltN [_] 1 (.add (.mulL 5 vA) (.num 3)) (.num 1000) [.s 5 vA (.num 8)] aI hk) σ
 rw[(by lia:((5*k+3:Nat):Int)=((5*k:Nat):Int)+3)] at d3
 let keep:=((dig script (5*k+3)).fdiv 4).fmod 4
 let w2:List V:=if keep<2 then .tup [.loc S,rv,.loc s,.int now]::w else w
 have Zc:∀t∈w2,∃S rv s now,t=wo S rv s now∧Cj σ ah S rv s now:=by
  intro t ht
  by_cases hk2:keep<2
  ·simp only[w2,aC hk2] at ht
   rcases eH ht with rfl|ht
   ·exact⟨S,rv,s,now,rfl,W⟩
   ·exact wt t ht
  ·simp only[w2,aB hk2] at ht
   exact wt t ht
 refine Ro (turns (e0:=some (sc script)) (e1:=some (.loc 0)) (e2:=e2) (e3:=e3) (e5:=some (.loc 13)) (e6:=some (.loc 14)) (e7:=some (.lst (if keep=3 then [.tup [.loc S,rv,.loc s,.int now]] else []))) (e8:=some (.int now)) (e9:=e9) (fE:=some (.int ((5*k:Nat):Int))) (fX:=some (.loc s)) (dX:=dX) (dM:=dM) (jw:=some (.loc S)) (gU:=some rv) (eg:=eg) (ek:=ek) (eu:=some (.int keep)) (dS:=some (.lst w2)) (w0:=w2) (gm:=σ) w2 dK I J R aV Zc) λτ av D5 e I' J' R' E m1 m2 C=>?_
 have hl':av.length=ah.length:=by have:=aj List.length m1;simpa using this
 have mm:∀l:List Rw,l.map (λp=>V.loc p.tl)=(l.map (·.tl)).map V.loc:=λl=>by rw[List.map_map];rfl
 have pY:τ[14]? =some (.list (av.map λp=>V.loc p.tl)):=by rw[C.get rE (M5 R),mm,mm,m2]
 refine bK (JI I' J' R' pY (by exact(cV (cG hl') aV))) λx Zd=>?_
 refine⟨τ++x,av,if keep=3 then [.tup [.loc S,rv,.loc s,.int now]] else [],some (.int keep),some (.lst w2),D5,?_,⟨I'.app x,J'.app x,R',?_,?_,?_⟩,hl'⟩
 ·rw[Y6 _ d3,Y7,Y8 _ (by exact cP [_] 1 vA (.num 10) [.l 1 vA (.num 1)] aI hw),Y9,Mk,M0,OZ,OU]
  simp only[OJ,OI,Option.bind_some,Yg]
  rw[show jf (V.lst w2) σ=some w2 from rfl,Option.bind_some,So,e,Option.bind_some,Ml,Za _ Zd,Ko]
 ·rw[fz _ _ _ (In.of pY)];exact pY
 ·split<;>simp
 ·intro t ht
  split at ht
  ·rw[List.mem_singleton] at ht
   subst ht
   refine⟨S,rv,s,now,rfl,(W.zV I J E C).keep (M:=λ_=>False) (Ev.refl _) (λ_ _ _ _ _ _ _ h=>?_) λq h=>?_⟩
   ·rw[fz _ _ _ (In.of h)];exact h
   ·rw[fz _ _ _ (In.of h)];exact h
  ·exact nomatch ht
theorem JJ{e2 e3 fE fX dX dM jw gU eg ek eu dS dK:Option V}{script:List Int}(hl:script.length≤63){k:Nat}(hk:k<8){σ:aa}{ah:List Rw}{cnt now:Int}{w:List V}(V0:Inv σ ah cnt w)(aV:ah.length≤k):
  ∃τ av mj w' qg TQ TR TS TU TV TZ T3 T4 M6 M7 D5,o9 4 [some (sc script),some (.loc 0),e2,e3,some (.loc 12),some (.loc 13),some (.loc 14),some (.lst w),some (.int now),some (.int (k:Nat)),fE,fX,dX,dM,jw,gU,eg,ek,eu,dS,dK] σ=some (.next,[some (sc script),some (.loc 0),e2,e3,some (.loc 12),some (.loc 13),some (.loc 14),some (.lst w'),some (.int qg),some (.int (k:Nat)),TQ,TR,TS,TU,TV,TZ,T3,T4,M6,M7,D5],τ)∧Inv τ av mj w'∧av.length≤k+1:=by
 refine dY λG hG=>?_
 obtain⟨I,J,R,rE,hw,wt⟩:=V0
 have d4:=Nm 5 (script:=script) (j:=5*k+4) hl (by exact ltN [_] 1 (.add (.mulL 5 vA) (.num 4)) (.num 1000) [.s 5 vA (.num 8)] aI hk) σ
 rw[(rfl:((5*k+4:Nat):Int)=((5*k:Nat):Int)+4)] at d4
 obtain⟨t0,i0⟩:=Cq 0 3000 500 100 200 40000 100 125000 hk σ
 obtain⟨so,ai,pr,yd,yR,aW,aE,zone,N,Ze⟩:=YU hl (a:=5*k) (k:=k) (by exact ltN [_] 1 (.mulL 5 vA) (.num 900) [.s 5 vA (.num 8)] aI hk) hk σ
 have LK:=JA (aE:=aE) N.h1 N.h2 N.kd
 obtain⟨eE,lone,near,w',dO,hso,_⟩:=r9 N.kd
 refine hG ?_
 let qg:=now+t0+(dig script (5*k+4)).fmod 200000
 have hs1:(σ++[so])[σ.length]? =some so:=lu _ _ _ rfl
 have Qd:=hs1
 rw[hso] at Qd
 have es:=Hp (now:=qg) (e0:=some (sc script)) (e1:=some (.loc 0)) (e2:=e2) (e3:=e3) (e4:=some (.loc 12)) (e5:=some (.loc 13)) (e6:=some (.loc 14)) (e7:=some (.lst w)) (e9:=some (.int (k:Nat))) (fE:=some (.int ((5*k:Nat):Int))) (dX:=some (.int aE)) (jw:=jw) (gU:=gU) (eg:=eg) (ek:=ek) (eu:=eu) (dS:=dS) (dK:=dK) Qd (by rfl) LK.le (by have:=LK.off;exact gh this) LK.look
 rw[←hso] at es
 have l1:(σ++[so]).length=σ.length+1:=by simp
 rw[l1] at es
 let S:=σ.length+1+3
 let g:=Cv S (.loc (σ.length+1+2))
 have hg:g.length≤800:=by simp[g,Cv]
 let mt:V:= .loc (σ.length+1+1)
 let σ2:aa:=(σ++[so])++[Cw (jO ai pr yd yR aW aE) ai pr aE mt,jj,.dict 0 []]++(aq (.loc (σ.length+1)) (.int qg) .none (.int 1) (.int 0) .none g::Jz)
 have lS:((σ++[so])++[Cw (jO ai pr yd yR aW aE) ai pr aE mt,jj,.dict 0 []]).length=S:=by simp[S]
 have yc:σ2[S]? =some (aq (.loc (σ.length+1)) (.int qg) .none (.int 1) (.int 0) .none g):=by
  have:=r8 ((σ++[so])++[Cw (jO ai pr yd yR aW aE) ai pr aE mt,jj,.dict 0 []]) Jz (aq (.loc (σ.length+1)) (.int qg) .none (.int 1) (.int 0) .none g)
  rw[lS] at this
  exact this
 have hp2:σ2[σ.length+1]? =some (Cw (jO ai pr yd yR aW aE) ai pr aE mt):=by
  have:=r8 (σ++[so]) [jj,.dict 0 []] (Cw (jO ai pr yd yR aW aE) ai pr aE mt)
  rw[l1] at this
  exact(fz _ _ _ (In.of this)).trans this
 have T5:σ2[σ.length]? =some so:=by
  have:=fz σ.length (σ++[so]) [Cw (jO ai pr yd yR aW aE) ai pr aE mt,jj,.dict 0 []] (In.of hs1)
  rw[hs1] at this
  exact(fz _ _ _ (In.of this)).trans this
 let σ3:aa:=σ2.set S (aq (.loc (σ.length+1)) (.int qg) .none (.int 1) (.int 0) (.loc 0) g)
 have Zf:σ3[S]? =some (aq (.loc (σ.length+1)) (.int qg) .none (.int 1) (.int 0) (.loc 0) g):=cM _ _ _ (In.of yc)
 have hp3:σ3[σ.length+1]? =some (Cw (jO ai pr yd yR aW aE) ai pr aE mt):=(bh _ _ _ _ (by show S≠_;omega)).trans hp2
 have T6:σ3[σ.length]? =some so:=(bh _ _ _ _ (by show S≠_;omega)).trans T5
 have C3:Ch (λ_=>False) σ σ3:=by
  refine Ch.fresh (N:=λi=>i=S) ?_ (λi hi e=>by have:i=S:=e;omega)
  exact((((Ch.refl _ σ).app _).app _).app _).set _ rfl
 have QX:15≤σ.length:=by have:14<σ.length:=In.of rE;exact cP [_] 1 (.num 15) vA [.s 1 (.num 14) vA] aI this
 have I3:=I.frame C3 id id λ_ _=>id
 have J3:=J.frame C3 (λ_ _=>id) λ_ _=>id
 refine dY λG hG=>?_
 obtain⟨rv,st,dir,τ,qb,T7,zw,OO⟩:=tracked (e0:=some (sc script)) (e1:=some (.loc 0)) (e2:=e2) (e3:=e3) (e6:=some (.loc 14)) (e7:=some (.lst w)) (e9:=some (.int (k:Nat))) (fE:=some (.int ((5*k:Nat):Int))) (dM:=some (.bytes (jO ai pr yd yR aW aE))) (gU:=gU) (eg:=eg) (ek:=ek) (eu:=eu) (dS:=dS) (dK:=dK) N LK hg I3 J3 R (by exact cP [_,_] 1 vA (.num 18) [.s 1 vB (.num 8),.l 1 vA vB] aI hk aV) QX T6 (by show 15≤S;omega) Zf hp3
 have pY:σ3[14]? =some (.list (ah.map λp=>V.loc p.tl)):=C3.get rE id
 obtain⟨yX,Qe,I4,J4,T8,C4,Py,W4⟩:=held (e0:=some (sc script)) (e1:=some (.loc 0)) (e2:=e2) (e3:=e3) (e5:=some (.loc 13)) (e7:=some (.lst w)) (e8:=some (.int qg)) (e9:=some (.int (k:Nat))) (fE:=some (.int ((5*k:Nat):Int))) (fX:=some (.loc σ.length)) (dX:=some (.int aE)) (dM:=some (.bytes (jO ai pr yd yR aW aE))) (eg:=some (.int st)) (ek:=some (.int dir)) (eu:=eu) (dS:=dS) (dK:=dK) OO (by show 15≤S;omega) R.hi pY (by exact cP [_,_] 1 vA (.num 18) [.s 1 vB (.num 8),.l 1 vA vB] aI hk aV) hg QX
 refine hG ?_
 have R4:=OO.R
 have Call:Ch (λi=>MA ah i∨i=14) σ yX:=by
  refine Ch.fresh (N:=λi=>(i=S∨MA ah i)∨i=14) ?_ (λi hi h=>?_)
  ·exact((C3.mono λ_=>False.elim).trans (OO.ch.mono λi=> .inl)).trans (C4.mono λi=> .inr)
  ·rcases h with(h|h)|h
   ·have:i=S:=h;grind
   ·exact .inl h
   ·exact .inr h
 have KJ:∀{i:Nat}{o:O},15≤i→(∀d,o≠cj d)→(∀l,o≠ .list l)→(∀d,o≠aK d)→σ[i]? =some o→yX[i]? =some o:=λ{i o} hi h1 h2 h3 h=>by
  refine Call.get h ?_
  rintro(((rfl|rfl|⟨p,hp,rfl⟩)|h'|h'|h'|⟨p,hp,rfl⟩)|h')
  ·grind
  ·grind
  ·exact h1 _ (aX (h.symm.trans (I.hr p hp)))
  ·grind
  ·grind
  ·grind
  ·exact h3 _ (aX (h.symm.trans (J.ht p hp)))
  ·grind
 have Zg:∀t∈w,∃S rv s now,t=wo S rv s now∧Cj yX qb S rv s now:=λt ht=>by
  refine dY λG hG=>?_
  obtain⟨S',TN,s',Qf,h1,h2⟩:=wt t ht
  refine hG ?_
  have a1:=h2.1
  have a2:=h2.2.1
  refine⟨S',TN,s',Qf,h1,h2.keep (M:=λ_=>False) OO.ev (λa b c d e f g' h=>?_) (λq h=>?_)⟩
  ·obtain⟨x,y,z⟩:=rI a b c d e f g'
   exact KJ a1 x y z h
  ·obtain⟨x,y,z⟩:=uD q
   exact KJ a2 x y z h
 refine dY λG hG=>?_
 obtain⟨Zh,Qg,w5,M6,M7,D5,Qh,V5,Zi⟩:=ending (e2:=e2) (e3:=e3) (e9:=some (.int (k:Nat))) (dX:=some (.int aE)) (dM:=some (.bytes (jO ai pr yd yR aW aE))) (eg:=some (.int st)) (ek:=some (.int dir)) (eu:=eu) (dS:=dS) (dK:=dK) hl hk I4 J4 R4 T8 (by exact cP [_,_,_] 1 vA (.num 20) [.s 1 vB (.num 8),.l 1 vC vB,.l 1 vA (.add vC (.num 1))] aI hk aV Py) hw Zg W4
 refine hG ?_
 refine⟨Zh,Qg,T7,w5,qg,some (.int ((5*k:Nat):Int)),some (.loc σ.length),some (.int aE),some (.bytes (jO ai pr yd yR aW aE)),some (.loc S),some rv,some (.int st),some (.int dir),M6,M7,D5,?_,V5,by exact cP [_,_,_,_] 1 vA (.add vB (.num 1)) [.l 1 vC vB,.l 1 vD (.add vC (.num 1)),.e 1 vA vD] aI aV Py Zi⟩
 unfold o9
 rw[M3,u1 _ (TP hk),u2 _ i0 d4,u3 _ Ze,Ko]
 simp only[Option.bind_some]
 refine ay es (?_)
 simp only[Option.bind_some,List.set_cons_succ,List.set_cons_zero]
 have e4:=λr=>u4 (af P0 6) (e0:=some (sc script)) (e2:=e2) (e3:=e3) (e4:=some (.loc 12)) (e5:=some (.loc 13)) (e6:=some (.loc 14)) (e7:=some (.lst w)) (e8:=some (.int qg)) (e9:=some (.int (k:Nat))) (fE:=some (.int ((5*k:Nat):Int))) (fX:=some (.loc σ.length)) (dX:=some (.int aE)) (dM:=some (.bytes (jO ai pr yd yR aW aE))) (gU:=gU) (eg:=eg) (ek:=ek) (eu:=eu) (dS:=dS) (dK:=dK) (bk:= .loc 0) hg yc r
 refine ay post_eq (?_)
 refine(e4 _).trans ((zw _).trans ((Qe _).trans Qh))
noncomputable def Qi:aa:=[di 0,.dict 0 [],.dict 0 [],qG,.dict 0 [],.dict 2 [(.str 75,.fn 29),(.str 77,.fn 30)],.dict 1 [(.int 17,.loc 5)],.dict 2 [(.str 75,.fn 31),(.str 77,.fn 32),(.str 81,.fn 36)],.dict 2 [(.str 75,.fn 31),(.str 77,.fn 32),(.str 81,.fn 37)],.dict 1 [(.int 1,.loc 7),(.int 58,.loc 8)],.dict 2 [(.str 75,.fn 29),(.str 77,.fn 33)],.dict 1 [(.int (-1),.loc 10)],.list [],.list [.int 0],.list []]
noncomputable def Qj(script:List Int):Env:=[some (sc script),none,none,none,none,none,none,none,none,none,none,none,none,none,none,none,none,none,none,none,none]
noncomputable def Qk(script:List Int):Env:=[some (sc script),some (.loc 0),some (.loc 11),some (.int (-1)),some (.loc 12),some (.loc 13),some (.loc 14),some (.lst []),some (.int 1000),none,none,none,none,none,none,none,none,none,none,none,none]
theorem Hw(script:List Int):aP (af P0 6) (Qj script) (HG.take 4) []=some (.next,Qk script,Qi):=by kernel_rfl
theorem D6(script:List Int):kI KS [sc script]=some (Qj script):=by kernel_rfl
theorem T9:Inv Qi [] 0 [] where
 L:=⟨rfl,rfl,(λp hp=>nomatch hp)⟩
 P:=⟨rfl,⟨0,[],rfl,.inr ⟨rfl,rfl⟩,List.Perm.refl _⟩,⟨0,[],rfl,.inr ⟨rfl,rfl⟩,List.Perm.refl _⟩,rfl,rfl,rfl,rfl,rfl,rfl,(λp hp=>nomatch hp)⟩
 R:=⟨(λp hp=>nomatch hp),(λp hp=>nomatch hp),(λp hp=>nomatch hp),(λp hp=>nomatch hp),List.nodup_nil,List.Pairwise.nil,(λp hp=>nomatch hp),List.nodup_nil,List.nodup_nil,(λp hp=>nomatch hp)⟩
 rE:=rfl
 len:=Nat.zero_le _
 wt:=(λt ht=>nomatch ht)
theorem loop{script:List Int}(hl:script.length≤63){e2 e3:Option V}:∀(m k:Nat),m+k=8→∀{σ:aa}{ah:List Rw}{cnt now:Int}{w:List V}(_:Inv σ ah cnt w)(_:ah.length≤k)(e9 fE fX dX dM jw gU eg ek eu dS dK:Option V),
  ∃ρ τ,g6 (o9 4) (λρ v=>some (ρ.set 9 (some v))) (λ_=>true) (upTo k m) [some (sc script),some (.loc 0),e2,e3,some (.loc 12),some (.loc 13),some (.loc 14),some (.lst w),some (.int now),e9,fE,fX,dX,dM,jw,gU,eg,ek,eu,dS,dK] σ=some (.next,ρ,τ)
 |0,k,h,σ,ah,cnt,now,w,V0,hr,e9,fE,fX,dX,dM,jw,gU,eg,ek,eu,dS,dK=>⟨_,_,rfl⟩
 |m+1,k,h,σ,ah,cnt,now,w,V0,hr,e9,fE,fX,dX,dM,jw,gU,eg,ek,eu,dS,dK=>by
  refine dY λG hG=>?_
  obtain⟨τ,av,mj,w',qg,TQ,TR,TS,TU,TV,TZ,T3,T4,M6,M7,D5,e,V1,hr'⟩:=JJ (e2:=e2) (e3:=e3) (fE:=fE) (fX:=fX) (dX:=dX) (dM:=dM) (jw:=jw) (gU:=gU) (eg:=eg) (ek:=ek) (eu:=eu) (dS:=dS) (dK:=dK) hl (k:=k) (by exact ltN [_,_] 1 vA (.num 8) [.e 1 (.add (.add vB (.num 1)) vA) (.num 8)] aI h) V0 hr
  obtain⟨oO,yX,e2⟩:=loop hl m (k+1) (by exact dH (cP [_,_] 1 (.add vA (.add vB (.num 1))) (.num 8) [.e 1 (.add (.add vA (.num 1)) vB) (.num 8)] aI h) (cP [_,_] 1 (.num 8) (.add vA (.add vB (.num 1))) [.f 1 (.add (.add vA (.num 1)) vB) (.num 8)] aI h)) V1 hr' (some (.int (k:Nat))) TQ TR TS TU TV TZ T3 T4 M6 M7 D5
  refine hG ?_
  refine⟨oO,yX,?_⟩
  rw[upTo,g6,aC rfl,Option.bind_some]
  simp only[List.set_cons_succ,List.set_cons_zero]
  rw[e,Option.bind_some]
  exact e2
theorem Hx(script:List Int)(h:script.length≤63):∃ρ τ,Af 4 script=some (.ret (.bool true),ρ,τ):=by
 refine jo (loop h (e2:=some (.loc 11)) (e3:=some (.int (-1))) 8 0 rfl T9 (bS _) (now:=1000) none none none none none none none none none none none none) λρ τ e=>?_
 refine⟨ρ,τ,?_⟩
 unfold Af
 have eb:=D6 script
 unfold sc at eb
 rw[eb,Option.bind_some,Hw script,Option.bind_some]
 unfold Qk
 simp only[e,Option.bind_some]
end Mine.L
set_option tactic.hygienic true
namespace Mine
open PySem PySem.W PySem.Calls PyProof.Rows
theorem zW:pM callerA (4+3):=⟨rfl,by decide+kernel,by decide+kernel⟩
set_option maxHeartbeats 8000000 in
theorem said : PySem.Challenge.rw_pq1101_01.wellSaid = true := by
  unfold OpenLaw.wellSaid OpenRow.wellSaid OpenRow.partSaid looksOpen
  repeat' (with_reducible refine look_both ?_ ?_)
  all_goals decide +kernel
theorem prom:PySem.Challenge.rw_pq1101_01.row.toRowW.promised:=by w_witness2
theorem done:PySem.Challenge.rw_pq1101_01.Holds:=by
 refine holds_law said λsaid=>?_
 refine Top.zx (r:=PySem.Challenge.rw_pq1101_01.row) (d:= ?d) (kwd:= ?k) (YP:=λw h=>∃K:Frag,K.In h∧qo K=true) Top.left (λw s e=>of_eq_true e) (λw h h' Y k=>let⟨K,a,b⟩:=Y;⟨K,Frag.In.keeps a k,b⟩) (λs e=>xl_of s (bZ e).1) XL.keeps (by rfl) (by rfl) (by rfl) (λs e=>recFacts_of (bZ e).2) (by rfl) said (by decide+kernel) ⟨rfl,rfl,rfl,rfl,rfl,by decide+kernel⟩ prom ?_
 intro w s₀ s₁ mg mb G Y fa o pm cd doc dV kV ho hd hcd hD hmg hg args vals as j9 hlay hrd hwl hlo
 obtain⟨K,KX,hK⟩:=Y
 have X:=(Ground.X G).1
 have V:=(Ground.X G).2
 refine Ground.open G ?_
 intro T B D TE TW
 clear hd hcd hD
 wrow_args j9 hlay hrd hwl hlo
 rename_i nums _ _ _ _ _ _ _ la vs _ hL ra w1 r0 hI hr VH _
 have BB:=IM (prog:=PySem.Challenge.rw_pq1101_01.row.prog) (w:=w) (h0:=s₁.heap) (D8:=s₁.os) hK KX T
 have Kp:=DI hK PySem.Challenge.rw_pq1101_01.row.prog w s₁.heap s₁.os
 have Zj:∀f d,P0 f=some d→jB NM K (FA f) d=true:=λf d h=>by
  unfold P0 at h
  split at h
  ·cases h
  ·exact B7 hK h
 have hC:=F8 BB Kp Zj
 have Ua:mg (Str.ofString "law")=some (.ref fa):=hmg
 have Zk:fa=FA 67:=Mg hK (Kg hK KX T.g _▸Ua)
 subst Zk
 obtain⟨ρ',τ,zw⟩:=L.Hx nums (by omega)
 have S:St (XX PySem.Challenge.rw_pq1101_01.row.prog w s₁.heap s₁.os K) [] [] s₁:=⟨rfl,λp hp=>(nomatch hp),by obtain⟨o,_,_,ho,_⟩:=T.g;exact⟨o,ho⟩,λi j p q hi=>by simp at hi,λi o p hi=>by simp at hi,λb o e=>e,hg,rfl⟩
 have hla:s₁.heap.get? la=some (j7 vs.toArray 0):=by
  simp only[ofPy] at w1
  cases w1 with
  |list h1 h2=>
   obtain⟨o,g1,g2,n,g3⟩:=hL
   rw[h1] at g1
   cases g1
   dsimp only at g3
   cases g3
   exact h1
 have hv:bN (XX PySem.Challenge.rw_pq1101_01.row.prog w s₁.heap s₁.os K) [] s₁.heap [.lst (nums.map .int)] [.ref la]:=by
  simp only[bN]
  refine⟨_,_,rfl,?_,rfl⟩
  simp only[VR]
  exact⟨la,vs.toArray,0,rfl,(by rintro⟨p,hp,_⟩;cases hp),hla,bN.ofInts hI⟩
 refine k9 (Sa BB Kp hC (λf d h=>B7 hK h) zW S hv zw λbA x s' E' S' V'=>?_)
 simp only[VR] at V'
 subst V'
 refine⟨.inl ⟨.bool true,.bool true,[],rfl,λ_=>rfl,.bool true,?_,λ_=>⟨List.nodup_nil,λa ha=>nomatch ha⟩⟩,.of_keep λb o e=>E'.keep b o (by rintro⟨p,hp,_⟩;cases hp) e,S'.os,.of_eq S'.gens⟩
 first|rfl|kernel_rfl
end Mine
set_option maxRecDepth 100000 in
theorem PySem.Challenge.cw_pq1101_01_holds : PySem.Challenge.rw_pq1101_01.Holds :=
  Mine.done
end
