import PyProof.Rows.All
import Wide.All
import OpenK.AllK
import Wide.FinOn
import PySem.Eval
import KE.KBytesCut
import KE.KRevSl
import KE.KBytesWalk
import PySem.Challenge.RW_pq0957_01
set_option autoImplicit false
set_option linter.all false
set_option maxRecDepth 1000000
set_option Elab.async false
set_option genSizeOf false
set_option genInjectivity false
open PySem PySem.W PySem.Calls PyProof.Rows PySem.SeqAt
open PySem.Sem (wp)
namespace Mine
theorem TF{n m:Nat}(h:Nat.ble n m=true):n<=m:=Nat.le_of_ble_eq_true h
theorem TG(n:Nat):n<=n:=Nat.le.refl
theorem Ta{n m k:Nat}(h:n<=m)(h':m<=k):n<=k:=Nat.le_trans h h'
theorem TO{P:Prop}(h:False):P:=h.elim
theorem TP{α:Type}(a b c:List α):a++b++c=a++(b++c):=List.append_assoc a b c
theorem TN{α β:Type}{l:List α}(f:α->β):(l.map f).length=l.length:=List.length_map f
theorem TM{α:Type}{a b:List α}:(a++b).length=a.length+b.length:=List.length_append
section
set_option backward.match.sparseCases false
set_option genCtorIdx false in
inductive D where
 |none|bool (b:Bool)|int (i:Int)|str (l:List Nat)|bytes (l:List UInt8)
 |tuple (l:List D)|list (l:List D)|atom (t:List Nat)
inductive B where
 |len|ord|chr|abs|min|all|isinstance|cV|dg|mS|u9|bF|jV
set_option genCtorIdx false in
inductive Mt where
 |append|join|split|lower|replace|find
 |own (i:Nat)
inductive At where|text|data|at
inductive Op where|add|sub|mul|fdiv|mod|pow
inductive Co where|eq|ne|lt|le|gt|ge|mem|A3|is|CJ
set_option genCtorIdx false in
inductive V where
 |d (x:D)|loc (k:Nat)|fn (i:Nat)|bi (b:B)|lU|tS
 |lam (j:Nat) (cs:List Nat)|tup (l:List V)
set_option genCtorIdx false in
mutual
inductive Ex where
 |const (v:V)
 |lv (i:Nat)
 |cv (j:Nat)
 |bin (o:Op) (l r:Ex)
 |neg (e:Ex)
 |gY (isAnd:Bool) (es:List Ex)
 |cmp (l:Ex) (o:Co) (r:Ex)
 |iX (l:Ex) (o:Co) (r:Ex) (o':Co) (r':Ex)
 |aT (t:Ts) (a b:Ex)
 |tuple (es:List Ex)
 |list (mu:Bool) (es:List Ex)
 |comp (mu:Bool) (elt:Ex) (tg:Tg) (it:It) (ifs:List Ts) (nl nc:Nat) (free:List Nat)
 |attr (e:Ex) (a:At)
 |sub (e i:Ex)
 |slice (e:Ex) (lo hi:Option Ex)
 |rev (e:Ex)
 |call (f:Ex) (args:List Ex)
 |ag (o:Ex) (m:Mt) (args:List Ex)
 |lam (j:Nat) (free:List Nat)
inductive Ts where
 |not (t:Ts)
 |bool (isAnd:Bool) (ts:List Ts)
 |val (e:Ex)
inductive It where
 |ex (e:Ex)
 |range (args:List Ex)
 |enum (e:Ex)
inductive Tg where
 |lv (i:Nat)|cv (j:Nat)|tup (l:List Tg)|attr (e:Ex) (a:At)|sub (o i:Ex)
end
set_option genCtorIdx false in
inductive aI where
 |list (l:List D)|gV (l:List V)|eX (b:List UInt8)|wire (d:List UInt8) (at_:Int)|cell (v:Option V)|dead
abbrev Mu:=List aI
set_option genCtorIdx false in
inductive St where
 |assign (t:Tg) (e:Ex)
 |aug (i:Nat) (e:Ex)
 |ret (e:Ex)
 |expr (e:Ex)
 |aT (t:Ts) (b o:List St)
 |sR (t:Ts) (b:List St)
 |FN (t:Tg) (it:It) (b:List St)
 |cont
 |stop
structure Fn where
 np:Nat
 defs:List V
 DK:List (Option Nat)
 m_:List (Option Nat)
 keep:Bool
 body:List St
structure Fr where
 vs:List (Option V)
 cs:List Nat
set_option genCtorIdx false in
inductive Fl where|next|cont|ret (v:V)
noncomputable def lim:Nat:=16777216
abbrev V.int(i:Int):V:=.d (.int i)
abbrev V.bool(b:Bool):V:=.d (.bool b)
abbrev V.str(l:List Nat):V:=.d (.str l)
abbrev V.bytes(l:List UInt8):V:=.d (.bytes l)
abbrev V.none:V:=.d .none
noncomputable def place(i:Int)(n:Nat):Option Nat:=
 let j:=if i<0 then i+n else i
 if 0<=j/\j<n then some j.toNat else none
noncomputable def clip(i:Int)(n:Nat):Nat:=
 let j:=if i<0 then i+n else i
 (max 0 (min j n)).toNat
noncomputable def pf(lo:Option Int)(n:Nat):Nat:=match lo with|none=>0|some i=>clip i n
noncomputable def rY(hi:Option Int)(n:Nat):Nat:=match hi with|none=>n|some i=>clip i n
noncomputable def cut{α:Type}(l:List α)(lo hi:Option Int):List α:=(l.take (rY hi l.length)).drop (pf lo l.length)
noncomputable def dec(n:Nat):List Nat:=(Nat.toDigits 10 n).map Char.toNat
noncomputable def splitOn(c:Nat):List Nat->List (List Nat)
 |[]=>[[]]
 |x::r=>if x=c then[]::splitOn c r else match splitOn c r with|w::ws=>(x::w)::ws|[]=>[[x]]
noncomputable def aq{α:Type}(sep:List α):List (List α)->List α
 |[]=>[]
 |[x]=>x
 |x::y::r=>x++sep++aq sep (y::r)
noncomputable def cW(c:UInt8)(y:List UInt8)(l:List UInt8):List UInt8:=l.flatMap fun x=>if x=c then y else[x]
noncomputable def bV(a b:UInt8):List UInt8->Nat->Option Nat
 |x::y::r,i=>if x=a/\y=b then some i else bV a b (y::r) (i+1)
 |_,_=>Option.none
noncomputable def lowerCode(n:Nat):Nat:=if 65<=n/\n<=90 then n+32 else n
noncomputable def D.isNone:D->Bool
 |.none=>true
 |_=>false
def Dp:Nat->D->Prop
 |0,.tuple _=>False
 |0,.list _=>False
 |n+1,.tuple l=>(∀x∈l,Dp n x)/\l.length<=lim
 |n+1,.list l=>(∀x∈l,Dp n x)/\l.length<=lim
 |_,.atom _=>False
 |_,_=>True
inductive N1 where|int|bytes|cR|atom
noncomputable def D.isA:D->N1->Bool
 |.int _,.int|.bool _,.int|.bytes _,.bytes|.list _,.cR|.tuple _,.cR|.atom _,.atom=>true
 |_,_=>false
noncomputable def mi:List (List Nat):=[[79,75,32,78,79,32,66,65,68,32,66,89,69,32,80,82,69,65,85,84,72],[],[32,73,68,76,69],[32,73,68,76,69,32,116,104,114,101,97,100,61,120],[32,73,68,76,69,32,116,104,114,101,97,100,61,120,32,76,73,84,69,82,65,76,43]]
noncomputable def bY:List (List UInt8):=[[112,108,97,105,110],[],[97,34,98,92],[108,13,10,114],[110,105,108],[116,9,98],[0,255],[73,78,66,79,88],[97,32,98],[120,47,121,93],[40],[97,49],[120,32,121],List.replicate 72 121,List.replicate 100 122]
noncomputable def lA:List (List UInt8×UInt8×List UInt8):=bY.map (·,92,[92,92])++bY.map (cW 92 [92,92] ·,34,[92,34])
noncomputable def DH:List V->Option (List D)
 |[]=>some []
 |.d x::r=>(DH r).map (x::·)
 |_::_=>none
noncomputable def HK(l:List V):V:=match DH l with|some ds=>.d (.tuple ds)|none=>.tup l
def Fz(μ:Mu)(n:Nat)(v:V):D->Prop:=V.rec (motive_1:=fun v=>D->Prop) (motive_2:=fun v=>List D->Prop) (fun x y=>y=x) (fun k y=>n<=k/\∃l,μ[k]? =some (.list l)/\y=.list l) (fun x y=>False) (fun x y=>False) (fun y=>False) (fun y=>False) (fun j cs y=>False)
 (fun l h y=>∃ds,h ds/\y=.tuple ds) (fun ds=>ds=[]) (fun v l h t ds=>∃x xs,h x/\t xs/\ds=x::xs) v
def R4(μ:Mu)(n:Nat)(v:List V):List D->Prop:=V.rec_1 (motive_1:=fun v=>D->Prop) (motive_2:=fun v=>List D->Prop) (fun x y=>y=x) (fun k y=>n<=k/\∃l,μ[k]? =some (.list l)/\y=.list l) (fun x y=>False) (fun x y=>False) (fun y=>False) (fun y=>False) (fun j cs y=>False)
 (fun l h y=>∃ds,h ds/\y=.tuple ds) (fun ds=>ds=[]) (fun v l h t ds=>∃x xs,h x/\t xs/\ds=x::xs) v
noncomputable def Fn.full(f:Fn)(args:List V):Option (List V):=
 if args.length<=f.np/\f.np<=args.length+f.defs.length then some (args++f.defs.drop (args.length+f.defs.length-f.np))else none
noncomputable def Fn.vars(f:Fn)(full:List V):List (Option V):=f.DK.map fun o=>o.bind (full[·]?)
noncomputable def Fn.cells(f:Fn)(full:List V):List aI:=f.m_.map fun o=>.cell (o.bind (full[·]?))
noncomputable def Fl.val:Fl->V
 |.ret v=>v
 |_=>.none
noncomputable def D.items:D->Option (List D)
 |.bytes l=>some (l.map fun c=>.int (c.toNat:Int))
 |.str l=>some (l.map fun c=>.str [c])
 |.tuple l=>some l
 |.list l=>some l
 |_=>Option.none
def Ef(g:Option (Nat×List D))(μ:Mu):Prop:=∀k l,g=some (k,l)->μ[k]? =some (.list l)
noncomputable def Ru:V->Option (Option Int)
 |.d .none=>some none
 |.d (.int i)=>some (some i)
 |_=>Option.none
def VC(n:Nat)(v:V):Prop:=V.rec (motive_1:=fun v=>Prop) (motive_2:=fun v=>Prop) (fun x=>True) (fun k=>k<n) (fun x=>True) (fun x=>True) True True (fun j cs=>∀k∈cs,k<n) (fun l h=>h) True (fun v l h t=>h/\t) v
def OI(n:Nat)(v:List V):Prop:=V.rec_1 (motive_1:=fun v=>Prop) (motive_2:=fun v=>Prop) (fun x=>True) (fun k=>k<n) (fun x=>True) (fun x=>True) True True (fun j cs=>∀k∈cs,k<n) (fun l h=>h) True (fun v l h t=>h/\t) v
def MC(n:Nat):aI->Prop
 |.gV l=>OI n l
 |.cell (some v)=>VC n v
 |_=>True
def Cl(μ:Mu):Prop:=∀(k:Nat) m,μ[k]? =some m->MC μ.length m
end
noncomputable def e_:Fn:=⟨1,[],[(some 0)],[],false,[
 (.ret (.iX (.const (.d (.int 32))) .le (.lv 0) .le (.const (.d (.int 126)))))]⟩
noncomputable def el:Fn:=⟨1,[],[(some 0),none,none,none,none],[],false,[
 (.assign (.lv 1) (.call (.const (.bi .dg)) [])),
 (.assign (.lv 2) (.const (.d (.int 0)))),
 (.sR (.val (.cmp (.lv 2) .lt (.call (.const (.bi .len)) [(.lv 0)]))) [(.assign (.lv 3) (.call (.const (.bi .ord)) [(.sub (.lv 0) (.lv 2))])),(.aT (.val (.call (.const (.fn 0)) [(.lv 3)])) [(.expr (.ag (.lv 1) .append [(.lv 3)])),(.aT (.val (.cmp (.lv 3) .eq (.const (.d (.int 38))))) [(.expr (.ag (.lv 1) .append [(.const (.d (.int 45)))]))] []),(.aug 2 (.const (.d (.int 1))))] [.stop,(.expr (.ag (.lv 1) .append [(.const (.d (.int 38)))])),.stop,(.expr (.ag (.lv 1) .append [(.const (.d (.int 45)))])),(.assign (.lv 2) (.lv 4))])]),
 (.ret (.call (.const (.bi .cV)) [(.lv 1)]))]⟩
noncomputable def fU:Fn:=⟨1,[],[(some 0),none,none,none,none,none],[],false,[
 (.assign (.lv 1) (.list true [])),
 (.assign (.lv 2) (.const (.d (.int 0)))),
 (.assign (.lv 3) (.neg (.const (.d (.int 1))))),
 (.sR (.val (.cmp (.lv 2) .lt (.call (.const (.bi .len)) [(.lv 0)]))) [(.assign (.lv 4) (.sub (.lv 0) (.lv 2))),(.aT (.not (.val (.call (.const (.fn 0)) [(.lv 4)]))) [.stop] []),(.aT (.val (.cmp (.lv 4) .ne (.const (.d (.int 38))))) [(.expr (.ag (.lv 1) .append [(.call (.const (.bi .chr)) [(.lv 4)])])),(.aug 2 (.const (.d (.int 1)))),.cont] []),.stop,(.aT (.val (.cmp (.lv 5) .eq (.bin .add (.lv 2) (.const (.d (.int 1)))))) [(.expr (.ag (.lv 1) .append [(.const (.d (.str [38])))]))] [(.aT (.val (.cmp (.lv 2) .eq (.lv 3))) [.stop] [.stop,(.assign (.lv 3) (.bin .add (.lv 5) (.const (.d (.int 1)))))])]),(.assign (.lv 2) (.bin .add (.lv 5) (.const (.d (.int 1)))))]),
 (.ret (.ag (.const (.d (.str []))) .join [(.lv 1)]))]⟩
noncomputable def ic:Fn:=⟨1,[],[(some 0)],[],false,[
 (.ret (.aT (.val (.iX (.const (.d (.int 65))) .le (.lv 0) .le (.const (.d (.int 90))))) (.bin .add (.lv 0) (.const (.d (.int 32)))) (.lv 0)))]⟩
noncomputable def qS:Fn:=⟨1,[],[(some 0)],[],false,[
 (.ret (.call (.const (.bi .cV)) [(.comp false (.call (.const (.fn 3)) [(.lv 1)]) (.lv 1) (.ex (.lv 0)) [] 2 0 [])]))]⟩
noncomputable def ia:Fn:=⟨1,[],[(some 0)],[],false,[
 (.ret (.ag (.const (.d (.str []))) .join [(.comp false (.call (.const (.bi .chr)) [(.call (.const (.fn 3)) [(.call (.const (.bi .ord)) [(.lv 1)])])]) (.lv 1) (.ex (.lv 0)) [] 2 0 [])]))]⟩
noncomputable def iu:Fn:=⟨1,[],[(some 0)],[],false,[
 (.ret (.ag (.const (.d (.str []))) .join [(.comp false (.aT (.val (.iX (.const (.d (.str [97]))) .le (.lv 1) .le (.const (.d (.str [122]))))) (.call (.const (.bi .chr)) [(.bin .sub (.call (.const (.bi .ord)) [(.lv 1)]) (.const (.d (.int 32))))]) (.lv 1)) (.lv 1) (.ex (.lv 0)) [] 2 0 [])]))]⟩
noncomputable def fc:Fn:=⟨1,[],[(some 0),none],[],false,[
 (.FN (.lv 1) (.range [(.call (.const (.bi .len)) [(.lv 0)])]) [(.aT (.val (.cmp (.sub (.lv 0) (.lv 1)) .gt (.const (.d (.int 127))))) [.stop] [])]),
 (.ret (.ag (.const (.d (.str []))) .join [(.comp false (.call (.const (.bi .chr)) [(.lv 1)]) (.lv 1) (.ex (.lv 0)) [] 2 0 [])]))]⟩
noncomputable def eF:Fn:=⟨1,[],[(some 0),none],[],false,[
 (.FN (.lv 1) (.range [(.call (.const (.bi .len)) [(.lv 0)])]) [(.aT (.val (.cmp (.call (.const (.bi .ord)) [(.sub (.lv 0) (.lv 1))]) .gt (.const (.d (.int 127))))) [.stop] [])]),
 (.ret (.call (.const (.bi .cV)) [(.comp false (.call (.const (.bi .ord)) [(.lv 1)]) (.lv 1) (.ex (.lv 0)) [] 2 0 [])]))]⟩
noncomputable def gU:Fn:=⟨2,[],[(some 0),(some 1),none,none],[],false,[
 (.aT (.bool true [(.val (.cmp (.lv 1) .lt (.call (.const (.bi .len)) [(.lv 0)]))),(.val (.cmp (.sub (.lv 0) (.lv 1)) .eq (.const (.d (.str [42])))))]) [(.ret (.tuple [(.const (.d (.int 0))),(.bin .add (.lv 1) (.const (.d (.int 1))))]))] []),
 (.assign (.lv 2) (.lv 1)),
 (.assign (.lv 3) (.const (.d (.int 0)))),
 (.sR (.bool true [(.val (.cmp (.lv 2) .lt (.call (.const (.bi .len)) [(.lv 0)]))),(.val (.iX (.const (.d (.str [48]))) .le (.sub (.lv 0) (.lv 2)) .le (.const (.d (.str [57])))))]) [(.assign (.lv 3) (.call (.const (.bi .min)) [(.bin .sub (.bin .add (.bin .mul (.lv 3) (.const (.d (.int 10)))) (.call (.const (.bi .ord)) [(.sub (.lv 0) (.lv 2))])) (.const (.d (.int 48)))),(.bin .add (.const (.d (.int 4294967295))) (.const (.d (.int 1))))])),(.aug 2 (.const (.d (.int 1))))]),
 (.aT (.val (.cmp (.lv 2) .eq (.lv 1))) [.stop] []),
 (.aT (.val (.cmp (.sub (.lv 0) (.lv 1)) .eq (.const (.d (.str [48]))))) [.stop] []),
 (.aT (.val (.cmp (.lv 3) .gt (.const (.d (.int 4294967295))))) [.stop] []),
 (.ret (.tuple [(.lv 3),(.lv 2)]))]⟩
noncomputable def gM:Fn:=⟨1,[],[(some 0),none,none,none,none],[],false,[
 (.assign (.lv 1) (.list true [])),
 (.assign (.lv 2) (.const (.d (.int 0)))),
 (.sR (.val (.const (.d (.bool true)))) [(.assign (.tup [(.lv 3),(.lv 2)]) (.call (.const (.fn 9)) [(.lv 0),(.lv 2)])),(.assign (.lv 4) (.lv 3)),(.aT (.bool true [(.val (.cmp (.lv 2) .lt (.call (.const (.bi .len)) [(.lv 0)]))),(.val (.cmp (.sub (.lv 0) (.lv 2)) .eq (.const (.d (.str [58])))))]) [(.assign (.tup [(.lv 4),(.lv 2)]) (.call (.const (.fn 9)) [(.lv 0),(.bin .add (.lv 2) (.const (.d (.int 1))))]))] []),(.expr (.ag (.lv 1) .append [(.tuple [(.lv 3),(.lv 4)])])),(.aT (.val (.cmp (.lv 2) .eq (.call (.const (.bi .len)) [(.lv 0)]))) [(.ret (.call (.const (.bi .bF)) [(.lv 1)]))] []),(.aT (.val (.cmp (.sub (.lv 0) (.lv 2)) .ne (.const (.d (.str [44]))))) [.stop] []),(.aug 2 (.const (.d (.int 1))))])]⟩
noncomputable def kk:Fn:=⟨1,[],[(some 0)],[],false,[
 (.aT (.val (.cmp (.lv 0) .eq (.const (.d (.int 0))))) [(.ret (.const (.d (.str [42]))))] []),
 (.ret (.call (.const (.bi .mS)) [(.lv 0)]))]⟩
noncomputable def jg:Fn:=⟨1,[],[(some 0)],[],false,[
 (.aT (.val (.cmp (.sub (.lv 0) (.const (.d (.int 0)))) .eq (.sub (.lv 0) (.const (.d (.int 1)))))) [(.ret (.call (.const (.fn 11)) [(.sub (.lv 0) (.const (.d (.int 0))))]))] []),
 (.ret (.bin .add (.bin .add (.call (.const (.fn 11)) [(.sub (.lv 0) (.const (.d (.int 0))))]) (.const (.d (.str [58])))) (.call (.const (.fn 11)) [(.sub (.lv 0) (.const (.d (.int 1))))])))]⟩
noncomputable def ke:Fn:=⟨1,[],[(some 0)],[],false,[
 (.ret (.ag (.const (.d (.str [44]))) .join [(.comp false (.call (.const (.fn 12)) [(.lv 1)]) (.lv 1) (.ex (.lv 0)) [] 2 0 [])]))]⟩
noncomputable def fL:Fn:=⟨1,[],[(some 0)],[],false,[
 (.ret (.iX (.const (.d (.int 33))) .le (.lv 0) .le (.const (.d (.int 126)))))]⟩
noncomputable def fD:Fn:=⟨1,[],[(some 0)],[],false,[
 (.ret (.gY true [(.call (.const (.fn 14)) [(.lv 0)]),(.cmp (.lv 0) .A3 (.const (.d (.bytes [40,41,123,37,42,34,92,93]))))]))]⟩
noncomputable def d7:Fn:=⟨1,[],[(some 0)],[],false,[
 (.ret (.gY false [(.call (.const (.fn 15)) [(.lv 0)]),(.cmp (.lv 0) .eq (.const (.d (.int 93))))]))]⟩
noncomputable def gD:Fn:=⟨1,[],[(some 0)],[],false,[
 (.ret (.gY true [(.call (.const (.fn 16)) [(.lv 0)]),(.cmp (.lv 0) .ne (.const (.d (.int 43))))]))]⟩
noncomputable def eR:Fn:=⟨1,[],[(some 0)],[],false,[
 (.ret (.gY true [(.call (.const (.fn 14)) [(.lv 0)]),(.cmp (.lv 0) .A3 (.const (.d (.bytes [40,41,123,34,93]))))]))]⟩
noncomputable def gw:Fn:=⟨1,[],[(some 0)],[],false,[
 (.ret (.gY false [(.iX (.const (.d (.int 48))) .le (.lv 0) .le (.const (.d (.int 57)))),(.cmp (.lv 0) .mem (.const (.d (.bytes [58,44,42]))))]))]⟩
noncomputable def jr:Fn:=⟨1,[],[(some 0)],[],false,[
 (.ret (.iX (.const (.d (.int 48))) .le (.lv 0) .le (.const (.d (.int 57)))))]⟩
noncomputable def di:Fn:=⟨1,[],[(some 0),none,none],[],false,[
 (.assign (.lv 1) (.const (.d (.int 0)))),
 (.FN (.lv 2) (.ex (.lv 0)) [(.assign (.lv 1) (.bin .sub (.bin .add (.bin .mul (.lv 1) (.const (.d (.int 10)))) (.lv 2)) (.const (.d (.int 48)))))]),
 (.ret (.lv 1))]⟩
noncomputable def hO:Fn:=⟨1,[],[(some 0)],[],false,[
 (.aT (.val (.cmp (.lv 0) .lt (.const (.d (.int 0))))) [.stop] []),
 (.ret (.call (.const (.fn 8)) [(.call (.const (.bi .mS)) [(.lv 0)])]))]⟩
noncomputable def oC:Fn:=⟨1,[],[(some 0)],[],false,[
 (.ret (.aT (.val (.cmp (.attr (.lv 0) .at) .lt (.call (.const (.bi .len)) [(.attr (.lv 0) .data)]))) (.sub (.attr (.lv 0) .data) (.attr (.lv 0) .at)) (.neg (.const (.d (.int 1))))))]⟩
noncomputable def n5:Fn:=⟨2,[],[(some 0),(some 1)],[],false,[
 (.aT (.val (.cmp (.slice (.attr (.lv 0) .data) (some (.attr (.lv 0) .at)) (some (.bin .add (.attr (.lv 0) .at) (.call (.const (.bi .len)) [(.lv 1)])))) .ne (.lv 1))) [(.ret (.const (.d (.bool false))))] []),
 (.assign (.attr (.lv 0) .at) (.bin .add (.attr (.lv 0) .at) (.call (.const (.bi .len)) [(.lv 1)]))),
 (.ret (.const (.d (.bool true))))]⟩
noncomputable def nX:Fn:=⟨3,[],[(some 0),(some 1),(some 2)],[],false,[
 (.aT (.not (.val (.ag (.lv 0) (.own 24) [(.lv 1)]))) [.stop] [])]⟩
noncomputable def mv:Fn:=⟨1,[],[(some 0)],[],false,[
 (.expr (.ag (.lv 0) (.own 25) [(.const (.d (.bytes [32]))),(.const (.d (.str [97,32,98,108,97,110,107,32,105,115,32,109,105,115,115,105,110,103])))]))]⟩
noncomputable def nD:Fn:=⟨1,[],[(some 0)],[],false,[
 (.expr (.ag (.lv 0) (.own 24) [(.const (.d (.bytes [13,10])))])),
 (.aT (.val (.cmp (.attr (.lv 0) .at) .ne (.call (.const (.bi .len)) [(.attr (.lv 0) .data)]))) [.stop] [])]⟩
noncomputable def qK:Fn:=⟨2,[],[(some 0),(some 1),none],[],false,[
 (.assign (.lv 2) (.attr (.lv 0) .at)),
 (.sR (.bool true [(.val (.cmp (.attr (.lv 0) .at) .lt (.call (.const (.bi .len)) [(.attr (.lv 0) .data)]))),(.val (.call (.lv 1) [(.sub (.attr (.lv 0) .data) (.attr (.lv 0) .at))]))]) [(.assign (.attr (.lv 0) .at) (.bin .add (.attr (.lv 0) .at) (.const (.d (.int 1)))))]),
 (.ret (.slice (.attr (.lv 0) .data) (some (.lv 2)) (some (.attr (.lv 0) .at))))]⟩
noncomputable def jj:Fn:=⟨3,[],[(some 0),(some 1),(some 2),none],[],false,[
 (.assign (.lv 3) (.ag (.lv 0) (.own 28) [(.lv 1)])),
 (.aT (.val (.cmp (.call (.const (.bi .len)) [(.lv 3)]) .eq (.const (.d (.int 0))))) [.stop] []),
 (.ret (.call (.const (.fn 7)) [(.lv 3)]))]⟩
noncomputable def nN:Fn:=⟨1,[],[(some 0)],[],false,[
 (.ret (.ag (.lv 0) (.own 29) [(.const (.fn 15)),(.const (.d (.str [97,110,32,97,116,111,109,32,105,115,32,109,105,115,115,105,110,103])))]))]⟩
noncomputable def nP:Fn:=⟨1,[],[(some 0)],[],false,[
 (.ret (.call (.const (.fn 6)) [(.ag (.lv 0) (.own 30) [])]))]⟩
noncomputable def iq:Fn:=⟨1,[],[(some 0)],[],false,[
 (.ret (.ag (.lv 0) (.own 29) [(.const (.fn 19)),(.const (.d (.str [97,32,115,101,116,32,111,102,32,110,117,109,98,101,114,115,32,105,115,32,109,105,115,115,105,110,103])))]))]⟩
noncomputable def kq:Fn:=⟨1,[],[(some 0),none,none],[],false,[
 (.assign (.lv 1) (.attr (.lv 0) .at)),
 (.assign (.lv 2) (.ag (.lv 0) (.own 28) [(.const (.fn 20))])),
 (.aT (.bool false [(.val (.cmp (.call (.const (.bi .len)) [(.lv 2)]) .eq (.const (.d (.int 0))))),(.val (.cmp (.call (.const (.bi .len)) [(.lv 2)]) .gt (.const (.d (.int 19)))))]) [.stop] []),
 (.ret (.call (.const (.fn 21)) [(.lv 2)]))]⟩
noncomputable def cZ:Fn:=⟨1,[],[(some 0),none],[],false,[
 (.expr (.ag (.lv 0) (.own 25) [(.const (.d (.bytes [34]))),(.const (.d (.str [97,32,113,117,111,116,101,32,105,115,32,109,105,115,115,105,110,103])))])),
 (.assign (.lv 1) (.call (.const (.bi .dg)) [])),
 (.sR (.val (.cmp (.ag (.lv 0) (.own 23) []) .ne (.const (.d (.int 34))))) [(.aT (.val (.cmp (.ag (.lv 0) (.own 23) []) .eq (.const (.d (.int 92))))) [(.assign (.attr (.lv 0) .at) (.bin .add (.attr (.lv 0) .at) (.const (.d (.int 1))))),(.aT (.bool true [(.val (.cmp (.ag (.lv 0) (.own 23) []) .ne (.const (.d (.int 34))))),(.val (.cmp (.ag (.lv 0) (.own 23) []) .ne (.const (.d (.int 92)))))]) [.stop] [])] []),(.aT (.bool false [(.val (.cmp (.ag (.lv 0) (.own 23) []) .lt (.const (.d (.int 1))))),(.val (.cmp (.ag (.lv 0) (.own 23) []) .gt (.const (.d (.int 127))))),(.val (.cmp (.ag (.lv 0) (.own 23) []) .mem (.const (.d (.bytes [13,10])))))]) [.stop] []),(.expr (.ag (.lv 1) .append [(.ag (.lv 0) (.own 23) [])])),(.assign (.attr (.lv 0) .at) (.bin .add (.attr (.lv 0) .at) (.const (.d (.int 1)))))]),
 (.assign (.attr (.lv 0) .at) (.bin .add (.attr (.lv 0) .at) (.const (.d (.int 1))))),
 (.ret (.call (.const (.bi .cV)) [(.lv 1)]))]⟩
noncomputable def ec:Fn:=⟨1,[],[(some 0),none,none,none],[],false,[
 (.expr (.ag (.lv 0) (.own 25) [(.const (.d (.bytes [123]))),(.const (.d (.str [97,32,108,105,116,101,114,97,108,32,105,115,32,109,105,115,115,105,110,103])))])),
 (.assign (.lv 1) (.ag (.lv 0) (.own 28) [(.const (.fn 20))])),
 (.aT (.bool false [(.val (.cmp (.call (.const (.bi .len)) [(.lv 1)]) .eq (.const (.d (.int 0))))),(.val (.cmp (.call (.const (.bi .len)) [(.lv 1)]) .gt (.const (.d (.int 10)))))]) [.stop] []),
 (.expr (.ag (.lv 0) (.own 24) [(.const (.d (.bytes [43])))])),
 (.expr (.ag (.lv 0) (.own 25) [(.bin .add (.const (.d (.bytes [125]))) (.const (.d (.bytes [13,10])))),(.const (.d (.str [110,111,32,104,101,97,100,32,111,102,32,97,32,108,105,116,101,114,97,108])))])),
 (.assign (.lv 2) (.bin .add (.attr (.lv 0) .at) (.call (.const (.fn 21)) [(.lv 1)]))),
 (.aT (.val (.cmp (.lv 2) .gt (.call (.const (.bi .len)) [(.attr (.lv 0) .data)]))) [.stop] []),
 (.assign (.lv 3) (.slice (.attr (.lv 0) .data) (some (.attr (.lv 0) .at)) (some (.lv 2)))),
 (.assign (.attr (.lv 0) .at) (.lv 2)),
 (.ret (.call (.const (.bi .cV)) [(.lv 3)]))]⟩
noncomputable def kF:Fn:=⟨1,[],[(some 0)],[],false,[
 (.ret (.aT (.val (.cmp (.ag (.lv 0) (.own 23) []) .eq (.const (.d (.int 123))))) (.ag (.lv 0) (.own 35) []) (.ag (.lv 0) (.own 34) [])))]⟩
noncomputable def gg:Fn:=⟨2,[],[(some 0),(some 1),none],[],false,[
 (.aT (.bool false [(.val (.cmp (.ag (.lv 0) (.own 23) []) .eq (.const (.d (.int 34))))),(.val (.cmp (.ag (.lv 0) (.own 23) []) .eq (.const (.d (.int 123)))))]) [(.ret (.ag (.lv 0) (.own 36) []))] []),
 (.assign (.lv 2) (.ag (.lv 0) (.own 28) [(.lv 1)])),
 (.aT (.val (.cmp (.call (.const (.bi .len)) [(.lv 2)]) .eq (.const (.d (.int 0))))) [.stop] []),
 (.ret (.call (.const (.bi .cV)) [(.lv 2)]))]⟩
noncomputable def jb:Fn:=⟨1,[],[(some 0)],[],false,[
 (.ret (.ag (.lv 0) (.own 37) [(.const (.fn 16))]))]⟩
noncomputable def fS:Fn:=⟨2,[],[(some 0),(some 1),none],[],false,[
 (.expr (.ag (.lv 0) (.own 25) [(.const (.d (.bytes [40]))),(.const (.d (.str [97,32,108,105,115,116,32,105,115,32,109,105,115,115,105,110,103])))])),
 (.assign (.lv 2) (.list true [])),
 (.aT (.val (.ag (.lv 0) (.own 24) [(.const (.d (.bytes [41])))])) [(.ret (.lv 2))] []),
 (.expr (.ag (.lv 2) .append [(.call (.lv 1) [])])),
 (.sR (.not (.val (.ag (.lv 0) (.own 24) [(.const (.d (.bytes [41])))]))) [(.expr (.ag (.lv 0) (.own 26) [])),(.expr (.ag (.lv 2) .append [(.call (.lv 1) [])]))]),
 (.ret (.lv 2))]⟩
noncomputable def eQ:Fn:=⟨1,[],[(some 0),none,none],[],false,[
 (.assign (.lv 1) (.attr (.lv 0) .at)),
 (.assign (.lv 2) (.ag (.lv 0) (.own 28) [(.const (.fn 18))])),
 (.aT (.val (.cmp (.call (.const (.bi .len)) [(.lv 2)]) .eq (.const (.d (.int 0))))) [.stop] []),
 (.aT (.val (.cmp (.call (.const (.fn 4)) [(.lv 2)]) .eq (.const (.d (.bytes [110,105,108]))))) [(.ret (.const (.d .none)))] []),
 (.aT (.val (.call (.const (.bi .all)) [(.comp false (.call (.const (.fn 20)) [(.lv 1)]) (.lv 1) (.ex (.lv 2)) [] 2 0 [])])) [(.aT (.val (.cmp (.call (.const (.bi .len)) [(.lv 2)]) .gt (.const (.d (.int 19))))) [.stop] []),(.ret (.call (.const (.fn 21)) [(.lv 2)]))] []),
 (.ret (.call (.const .lU) [(.call (.const (.fn 7)) [(.lv 2)])]))]⟩
noncomputable def eZ:Fn:=⟨2,[(.d (.int 0))],[(some 0),(some 1),none],[],false,[
 (.aT (.bool false [(.val (.cmp (.ag (.lv 0) (.own 23) []) .eq (.const (.d (.int 34))))),(.val (.cmp (.ag (.lv 0) (.own 23) []) .eq (.const (.d (.int 123)))))]) [(.ret (.ag (.lv 0) (.own 36) []))] []),
 (.aT (.val (.cmp (.ag (.lv 0) (.own 23) []) .ne (.const (.d (.int 40))))) [(.ret (.ag (.lv 0) (.own 40) []))] []),
 (.aT (.val (.cmp (.lv 1) .eq (.const (.d (.int 30))))) [.stop] []),
 (.expr (.ag (.lv 0) (.own 24) [(.const (.d (.bytes [40])))])),
 (.assign (.lv 2) (.list true [])),
 (.sR (.not (.val (.ag (.lv 0) (.own 24) [(.const (.d (.bytes [41])))]))) [(.aT (.val (.cmp (.call (.const (.bi .len)) [(.lv 2)]) .gt (.const (.d (.int 0))))) [(.expr (.ag (.lv 0) (.own 26) []))] []),(.expr (.ag (.lv 2) .append [(.ag (.lv 0) (.own 41) [(.bin .add (.lv 1) (.const (.d (.int 1))))])]))]),
 (.ret (.lv 2))]⟩
noncomputable def gi:Fn:=⟨1,[],[(some 0)],[],false,[
 (.ret (.gY true [(.cmp (.call (.const (.bi .len)) [(.lv 0)]) .le (.const (.d (.int 72)))),(.call (.const (.bi .all)) [(.comp false (.iX (.const (.d (.int 32))) .le (.lv 1) .le (.const (.d (.int 126)))) (.lv 1) (.ex (.lv 0)) [] 2 0 [])])]))]⟩
noncomputable def bT:Fn:=⟨1,[],[(some 0),none,none],[],false,[
 (.assign (.lv 1) (.call (.const (.bi .dg)) [(.const (.d (.bytes [34])))])),
 (.FN (.lv 2) (.ex (.lv 0)) [(.aT (.bool false [(.val (.cmp (.lv 2) .eq (.const (.d (.int 34))))),(.val (.cmp (.lv 2) .eq (.const (.d (.int 92)))))]) [(.expr (.ag (.lv 1) .append [(.const (.d (.int 92)))]))] []),(.expr (.ag (.lv 1) .append [(.lv 2)]))]),
 (.expr (.ag (.lv 1) .append [(.const (.d (.int 34)))])),
 (.ret (.call (.const (.bi .cV)) [(.lv 1)]))]⟩
noncomputable def cX:Fn:=⟨2,[(.d (.bool false))],[(some 0),(some 1)],[],false,[
 (.ret (.bin .add (.bin .add (.bin .add (.bin .add (.const (.d (.bytes [123]))) (.call (.const (.fn 22)) [(.call (.const (.bi .len)) [(.lv 0)])])) (.aT (.val (.lv 1)) (.const (.d (.bytes [43,125]))) (.const (.d (.bytes [125]))))) (.const (.d (.bytes [13,10])))) (.call (.const (.bi .cV)) [(.lv 0)])))]⟩
noncomputable def dm:Fn:=⟨2,[(.d (.bool false))],[(some 0),(some 1)],[],false,[
 (.aT (.val (.call (.const (.fn 42)) [(.lv 0)])) [(.ret (.call (.const (.fn 43)) [(.lv 0)]))] []),
 (.ret (.call (.const (.fn 44)) [(.lv 0),(.lv 1)]))]⟩
noncomputable def b9:Fn:=⟨2,[(.d (.bool false))],[(some 0),(some 1)],[],false,[
 (.aT (.bool true [(.val (.iX (.const (.d (.int 0))) .lt (.call (.const (.bi .len)) [(.lv 0)]) .le (.const (.d (.int 72))))),(.val (.cmp (.call (.const (.fn 4)) [(.lv 0)]) .ne (.const (.d (.bytes [110,105,108])))))]) [(.aT (.val (.call (.const (.bi .all)) [(.comp false (.call (.const (.fn 16)) [(.lv 1)]) (.lv 1) (.ex (.lv 0)) [] 2 0 [])])) [(.ret (.call (.const (.bi .cV)) [(.lv 0)]))] [])] []),
 (.ret (.call (.const (.fn 45)) [(.lv 0),(.lv 1)]))]⟩
noncomputable def dc:Fn:=⟨2,[(.d (.int 0))],[(some 0)],[(some 1)],false,[
 (.aT (.val (.cmp (.lv 0) .is (.const (.d .none)))) [(.ret (.const (.d (.bytes [78,73,76]))))] []),
 (.aT (.val (.call (.const (.bi .isinstance)) [(.lv 0),(.const .lU)])) [(.ret (.call (.const (.fn 8)) [(.attr (.lv 0) .text)]))] []),
 (.aT (.val (.call (.const (.bi .isinstance)) [(.lv 0),(.const (.bi .cV))])) [(.ret (.call (.const (.fn 45)) [(.lv 0)]))] []),
 (.aT (.val (.call (.const (.bi .isinstance)) [(.lv 0),(.tuple [(.const (.bi .jV)),(.const (.bi .bF))])])) [(.aT (.val (.cmp (.cv 0) .eq (.const (.d (.int 30))))) [.stop] []),(.ret (.bin .add (.bin .add (.const (.d (.bytes [40]))) (.ag (.const (.d (.bytes [32]))) .join [(.comp false (.call (.const (.fn 47)) [(.lv 1),(.bin .add (.cv 0) (.const (.d (.int 1))))]) (.lv 1) (.ex (.lv 0)) [] 2 0 [0])])) (.const (.d (.bytes [41])))))] []),
 (.ret (.call (.const (.fn 22)) [(.lv 0)]))]⟩
noncomputable def ba:Fn:=⟨3,[],[(some 0),(some 1),(some 2),none,none,none,none],[],false,[
 (.assign (.lv 3) (.bin .sub (.lv 2) (.const (.d (.int 1))))),
 (.aT (.bool false [(.val (.cmp (.lv 3) .lt (.lv 1))),(.val (.cmp (.sub (.lv 0) (.lv 3)) .ne (.const (.d (.int 125)))))]) [(.ret (.const (.d .none)))] []),
 (.assign (.lv 3) (.bin .sub (.lv 3) (.const (.d (.int 1))))),
 (.assign (.lv 4) (.gY false [(.cmp (.lv 3) .lt (.lv 1)),(.cmp (.sub (.lv 0) (.lv 3)) .ne (.const (.d (.int 43))))])),
 (.aT (.not (.val (.lv 4))) [(.assign (.lv 3) (.bin .sub (.lv 3) (.const (.d (.int 1)))))] []),
 (.assign (.lv 5) (.bin .add (.lv 3) (.const (.d (.int 1))))),
 (.sR (.bool true [(.val (.cmp (.lv 3) .ge (.lv 1))),(.val (.call (.const (.fn 20)) [(.sub (.lv 0) (.lv 3))]))]) [(.assign (.lv 3) (.bin .sub (.lv 3) (.const (.d (.int 1)))))]),
 (.assign (.lv 6) (.slice (.lv 0) (some (.bin .add (.lv 3) (.const (.d (.int 1))))) (some (.lv 5)))),
 (.aT (.bool false [(.val (.cmp (.lv 3) .lt (.lv 1))),(.val (.cmp (.sub (.lv 0) (.lv 3)) .ne (.const (.d (.int 123))))),(.not (.val (.iX (.const (.d (.int 0))) .lt (.call (.const (.bi .len)) [(.lv 6)]) .le (.const (.d (.int 10))))))]) [(.ret (.const (.d .none)))] []),
 (.ret (.tuple [(.call (.const (.fn 21)) [(.lv 6)]),(.lv 4)]))]⟩
noncomputable def ew:Fn:=⟨2,[],[(some 0),(some 1),none,none,none],[],false,[
 (.assign (.lv 2) (.lv 1)),
 (.sR (.val (.const (.d (.bool true)))) [(.assign (.lv 3) (.ag (.lv 0) .find [(.const (.d (.bytes [13,10]))),(.lv 2)])),(.aT (.val (.cmp (.lv 3) .lt (.const (.d (.int 0))))) [(.ret (.tuple [(.neg (.const (.d (.int 1)))),(.const (.d .none))]))] []),(.assign (.lv 4) (.call (.const (.fn 48)) [(.lv 0),(.lv 2),(.lv 3)])),(.assign (.lv 2) (.bin .add (.lv 3) (.const (.d (.int 2))))),(.aT (.val (.cmp (.lv 4) .is (.const (.d .none)))) [(.ret (.tuple [(.lv 2),(.const (.d .none))]))] []),(.aT (.val (.cmp (.lv 2) .eq (.call (.const (.bi .len)) [(.lv 0)]))) [(.ret (.tuple [(.neg (.const (.d (.int 1)))),(.lv 4)]))] []),(.assign (.lv 2) (.bin .add (.lv 2) (.sub (.lv 4) (.const (.d (.int 0)))))),(.aT (.val (.cmp (.lv 2) .gt (.call (.const (.bi .len)) [(.lv 0)]))) [(.ret (.tuple [(.neg (.const (.d (.int 1)))),(.const (.d .none))]))] [])])]⟩
noncomputable def jv:Fn:=⟨1,[],[(some 0)],[],false,[
 (.aT (.val (.call (.const (.bi .isinstance)) [(.lv 0),(.tuple [(.const (.bi .jV)),(.const (.bi .bF))])])) [(.ret (.call (.const (.bi .bF)) [(.comp false (.call (.const (.fn 50)) [(.lv 1)]) (.lv 1) (.ex (.lv 0)) [] 2 0 [])]))] []),
 (.aT (.val (.call (.const (.bi .isinstance)) [(.lv 0),(.const .lU)])) [(.ret (.tuple [(.const (.d (.str [97,116,111,109]))),(.attr (.lv 0) .text)]))] []),
 (.ret (.lv 0))]⟩
noncomputable def gp:Fn:=⟨1,[],[(some 0)],[],false,[
 (.ret (.call (.const (.fn 50)) [(.lv 0)]))]⟩
noncomputable def dP:Fn:=⟨1,[],[(some 0),none,none],[],false,[
 (.FN (.tup [(.lv 1),(.lv 2)]) (.enum (.lv 0)) [(.aT (.not (.val (.iX (.const (.d (.int 32))) .le (.call (.const (.bi .ord)) [(.lv 2)]) .lt (.const (.d (.int 127)))))) [.stop] [])]),
 (.aT (.bool false [(.val (.cmp (.slice (.lv 0) none (some (.const (.d (.int 1))))) .eq (.const (.d (.str [91]))))),(.val (.cmp (.slice (.lv 0) (some (.neg (.const (.d (.int 1))))) none) .eq (.const (.d (.str [125])))))]) [.stop] []),
 (.ret (.call (.const (.fn 8)) [(.lv 0)]))]⟩
noncomputable def gq:Fn:=⟨1,[],[(some 0)],[],false,[
 (.ret (.call (.const (.fn 46)) [(.call (.const (.fn 1)) [(.lv 0)])]))]⟩
noncomputable def fG:Fn:=⟨1,[],[(some 0)],[],false,[
 (.ret (.ag (.const (.d (.bytes []))) .join [(.comp false (.bin .add (.const (.d (.bytes [32]))) (.call (.const (.fn 8)) [(.lv 1)])) (.lv 1) (.ex (.lv 0)) [] 2 0 [])]))]⟩
noncomputable def jB:Fn:=⟨1,[],[(some 0)],[],false,[
 (.ret (.bin .add (.bin .add (.const (.d (.bytes [40]))) (.ag (.const (.d (.bytes [32]))) .join [(.comp false (.call (.const (.fn 8)) [(.lv 1)]) (.lv 1) (.ex (.lv 0)) [] 2 0 [])])) (.const (.d (.bytes [41])))))]⟩
noncomputable def eG:Fn:=⟨1,[],[(some 0)],[],false,[
 (.ret (.call (.const (.fn 54)) [(.comp false (.call (.const (.bi .mS)) [(.lv 1)]) (.lv 1) (.ex (.lv 0)) [] 2 0 [])]))]⟩
noncomputable def dK:Fn:=⟨1,[],[(some 0),none,none,none],[],false,[
 (.assign (.lv 1) (.list true [])),
 (.FN (.tup [(.lv 2),(.lv 3)]) (.ex (.lv 0)) [(.expr (.ag (.lv 1) .append [(.lv 2)])),(.expr (.ag (.lv 1) .append [(.aT (.val (.call (.const (.bi .isinstance)) [(.lv 3),(.const (.bi .u9))])) (.call (.const (.bi .mS)) [(.lv 3)]) (.call (.const (.fn 13)) [(.lv 3)]))]))]),
 (.ret (.call (.const (.fn 54)) [(.lv 1)]))]⟩
noncomputable def ed:Fn:=⟨1,[],[(some 0)],[],false,[
 (.ret (.bin .add (.bin .add (.const (.d (.bytes [40]))) (.ag (.const (.d (.bytes [32]))) .join [(.comp false (.bin .add (.bin .add (.call (.const (.fn 8)) [(.lv 1)]) (.const (.d (.bytes [32])))) (.call (.const (.fn 47)) [(.lv 2)])) (.tup [(.lv 1),(.lv 2)]) (.ex (.lv 0)) [] 3 0 [])])) (.const (.d (.bytes [41])))))]⟩
noncomputable def dw:Fn:=⟨1,[],[(some 0),none],[],false,[
 (.assign (.lv 1) (.const (.d (.bytes [])))),
 (.aT (.val (.cmp (.sub (.lv 0) (.const (.d (.int 2)))) .CJ (.const (.d .none)))) [(.assign (.lv 1) (.bin .add (.bin .add (.const (.d (.bytes [91]))) (.ag (.const (.d (.bytes [32]))) .join [(.comp false (.call (.const (.fn 47)) [(.lv 1)]) (.lv 1) (.ex (.sub (.lv 0) (.const (.d (.int 2))))) [] 2 0 [])])) (.const (.d (.bytes [93,32])))))] []),
 (.ret (.bin .add (.bin .add (.call (.const (.fn 8)) [(.bin .add (.bin .add (.bin .add (.sub (.lv 0) (.const (.d (.int 1)))) (.const (.d (.str [32])))) (.call (.const (.fn 6)) [(.sub (.lv 0) (.const (.d (.int 0))))])) (.const (.d (.str [32]))))]) (.lv 1)) (.call (.const (.fn 52)) [(.sub (.lv 0) (.const (.d (.int 3))))])))]⟩
noncomputable def ip:Fn:=⟨1,[],[(some 0)],[],false,[
 (.aT (.val (.cmp (.sub (.lv 0) (.const (.d (.int 0)))) .eq (.const (.d (.str [102,108,97,103,115]))))) [(.ret (.bin .add (.const (.d (.bytes [70,76,65,71,83,32]))) (.call (.const (.fn 55)) [(.sub (.lv 0) (.const (.d (.int 1))))])))] []),
 (.aT (.val (.cmp (.sub (.lv 0) (.const (.d (.int 0)))) .eq (.const (.d (.str [115,116,97,116,117,115]))))) [(.ret (.bin .add (.bin .add (.bin .add (.bin .add (.const (.d (.bytes [83,84,65,84,85,83,32]))) (.call (.const (.fn 53)) [(.sub (.lv 0) (.const (.d (.int 1))))])) (.const (.d (.bytes [32,40])))) (.slice (.call (.const (.fn 57)) [(.sub (.lv 0) (.const (.d (.int 2))))]) (some (.const (.d (.int 1)))) none)) (.const (.d (.bytes [41])))))] []),
 (.ret (.bin .add (.bin .add (.bin .add (.bin .add (.call (.const (.fn 8)) [(.call (.const (.fn 6)) [(.sub (.lv 0) (.const (.d (.int 0))))])]) (.const (.d (.bytes [32])))) (.call (.const (.fn 55)) [(.sub (.lv 0) (.const (.d (.int 1))))])) (.const (.d (.bytes [32,34,47,34,32])))) (.call (.const (.fn 53)) [(.sub (.lv 0) (.const (.d (.int 2))))])))]⟩
noncomputable def cL:Fn:=⟨1,[],[(some 0),none,none],[],false,[
 (.aT (.val (.cmp (.sub (.lv 0) (.const (.d (.int 0)))) .eq (.const (.d (.str [115,101,97,114,99,104]))))) [(.assign (.lv 1) (.aT (.val (.cmp (.sub (.lv 0) (.const (.d (.int 2)))) .gt (.const (.d (.int 0))))) (.bin .add (.bin .add (.const (.d (.bytes [32,40,77,79,68,83,69,81,32]))) (.call (.const (.fn 8)) [(.call (.const (.bi .mS)) [(.sub (.lv 0) (.const (.d (.int 2))))])])) (.const (.d (.bytes [41])))) (.const (.d (.bytes []))))),(.ret (.bin .add (.bin .add (.const (.d (.bytes [83,69,65,82,67,72]))) (.call (.const (.fn 56)) [(.sub (.lv 0) (.const (.d (.int 1))))])) (.lv 1)))] []),
 (.aT (.val (.cmp (.sub (.lv 0) (.const (.d (.int 0)))) .eq (.const (.d (.str [101,115,101,97,114,99,104]))))) [(.assign (.lv 2) (.aT (.val (.cmp (.sub (.lv 0) (.const (.d (.int 1)))) .ne (.const (.d (.str []))))) (.bin .add (.bin .add (.const (.d (.bytes [32,40,84,65,71,32]))) (.call (.const (.fn 47)) [(.call (.const (.fn 8)) [(.sub (.lv 0) (.const (.d (.int 1))))])])) (.const (.d (.bytes [41])))) (.const (.d (.bytes []))))),(.ret (.bin .add (.bin .add (.bin .add (.const (.d (.bytes [69,83,69,65,82,67,72]))) (.lv 2)) (.aT (.val (.sub (.lv 0) (.const (.d (.int 2))))) (.const (.d (.bytes [32,85,73,68]))) (.const (.d (.bytes []))))) (.call (.const (.fn 57)) [(.sub (.lv 0) (.const (.d (.int 3))))])))] []),
 (.aT (.val (.cmp (.sub (.lv 0) (.const (.d (.int 0)))) .eq (.const (.d (.str [115,111,114,116]))))) [(.ret (.bin .add (.const (.d (.bytes [83,79,82,84]))) (.call (.const (.fn 56)) [(.sub (.lv 0) (.const (.d (.int 1))))])))] []),
 (.ret (.bin .add (.const (.d (.bytes [84,72,82,69,65,68]))) (.aT (.val (.cmp (.sub (.lv 0) (.const (.d (.int 1)))) .ne (.const (.d (.bytes []))))) (.bin .add (.const (.d (.bytes [32]))) (.sub (.lv 0) (.const (.d (.int 1))))) (.const (.d (.bytes []))))))]⟩
noncomputable def cz:Fn:=⟨1,[],[(some 0),none],[],false,[
 (.assign (.lv 1) (.sub (.lv 0) (.const (.d (.int 0))))),
 (.aT (.val (.cmp (.lv 1) .mem (.tuple [(.const (.d (.str [102,108,97,103,115]))),(.const (.d (.str [115,116,97,116,117,115]))),(.const (.d (.str [108,105,115,116]))),(.const (.d (.str [108,115,117,98])))]))) [(.ret (.call (.const (.fn 60)) [(.lv 0)]))] []),
 (.aT (.val (.cmp (.lv 1) .mem (.tuple [(.const (.d (.str [115,101,97,114,99,104]))),(.const (.d (.str [101,115,101,97,114,99,104]))),(.const (.d (.str [115,111,114,116]))),(.const (.d (.str [116,104,114,101,97,100])))]))) [(.ret (.call (.const (.fn 61)) [(.lv 0)]))] []),
 (.aT (.val (.cmp (.lv 1) .mem (.tuple [(.const (.d (.str [101,120,105,115,116,115]))),(.const (.d (.str [101,120,112,117,110,103,101])))]))) [(.ret (.call (.const (.fn 8)) [(.bin .add (.bin .add (.call (.const (.bi .mS)) [(.sub (.lv 0) (.const (.d (.int 1))))]) (.const (.d (.str [32])))) (.call (.const (.fn 6)) [(.lv 1)]))]))] []),
 (.aT (.val (.cmp (.lv 1) .eq (.const (.d (.str [102,101,116,99,104]))))) [(.ret (.bin .add (.bin .add (.call (.const (.fn 8)) [(.call (.const (.bi .mS)) [(.sub (.lv 0) (.const (.d (.int 1))))])]) (.const (.d (.bytes [32,70,69,84,67,72,32])))) (.call (.const (.fn 58)) [(.sub (.lv 0) (.const (.d (.int 2))))])))] []),
 (.aT (.val (.cmp (.lv 1) .eq (.const (.d (.str [118,97,110,105,115,104,101,100]))))) [(.ret (.bin .add (.bin .add (.const (.d (.bytes [86,65,78,73,83,72,69,68,32]))) (.aT (.val (.sub (.lv 0) (.const (.d (.int 2))))) (.const (.d (.bytes [40,69,65,82,76,73,69,82,41,32]))) (.const (.d (.bytes []))))) (.call (.const (.fn 8)) [(.call (.const (.fn 13)) [(.sub (.lv 0) (.const (.d (.int 1))))])])))] []),
 (.aT (.val (.cmp (.lv 1) .mem (.tuple [(.const (.d (.str [99,97,112,97,98,105,108,105,116,121]))),(.const (.d (.str [101,110,97,98,108,101,100])))]))) [(.ret (.bin .add (.call (.const (.fn 8)) [(.call (.const (.fn 6)) [(.lv 1)])]) (.call (.const (.fn 54)) [(.sub (.lv 0) (.const (.d (.int 1))))])))] []),
 (.aT (.val (.cmp (.lv 1) .eq (.const (.d (.str [105,100]))))) [(.ret (.const (.d (.bytes [73,68,32,78,73,76]))))] []),
 (.aT (.val (.cmp (.lv 1) .eq (.const (.d (.str [110,97,109,101,115,112,97,99,101]))))) [(.ret (.const (.d (.bytes [78,65,77,69,83,80,65,67,69,32,40,40,34,34,32,34,47,34,41,41,32,78,73,76,32,78,73,76]))))] []),
 .stop]⟩
noncomputable def fM:Fn:=⟨1,[],[(some 0)],[],false,[
 (.aT (.val (.cmp (.call (.const (.fn 6)) [(.sub (.lv 0) (.const (.d (.int 0))))]) .mem (.ag (.const (.d (.str [79,75,32,78,79,32,66,65,68,32,66,89,69,32,80,82,69,65,85,84,72]))) .split [(.const (.d (.str [32])))]))) [(.ret (.bin .add (.call (.const (.fn 59)) [(.lv 0)]) (.const (.d (.bytes [13,10])))))] []),
 (.aT (.val (.cmp (.sub (.lv 0) (.const (.d (.int 0)))) .eq (.const (.d (.str [103,111,32,111,110]))))) [(.ret (.bin .add (.bin .add (.const (.d (.bytes [43,32]))) (.call (.const (.fn 52)) [(.sub (.lv 0) (.const (.d (.int 1))))])) (.const (.d (.bytes [13,10])))))] []),
 (.ret (.bin .add (.bin .add (.const (.d (.bytes [42,32]))) (.call (.const (.fn 62)) [(.lv 0)])) (.const (.d (.bytes [13,10])))))]⟩
noncomputable def fI:Fn:=⟨1,[],[(some 0)],[],false,[
 (.ret (.gY true [(.call (.const (.fn 14)) [(.lv 0)]),(.cmp (.lv 0) .A3 (.const (.d (.bytes [91,93,40,41]))))]))]⟩
noncomputable def fE:Fn:=⟨1,[],[(some 0)],[],false,[
 (.ret (.iX (.const (.d (.int 32))) .le (.lv 0) .le (.const (.d (.int 126)))))]⟩
noncomputable def jn:Fn:=⟨1,[],[(some 0)],[],false,[
 (.ret (.ag (.lv 0) (.own 29) [(.const (.fn 64)),(.const (.d (.str [97,32,119,111,114,100,32,105,115,32,109,105,115,115,105,110,103])))]))]⟩
noncomputable def j3:Fn:=⟨1,[],[(some 0)],[],false,[
 (.ret (.call (.const (.fn 2)) [(.ag (.lv 0) (.own 38) [])]))]⟩
noncomputable def r8:Fn:=⟨1,[],[],[(some 0)],false,[
 (.ret (.call (.const (.bi .bF)) [(.ag (.cv 0) (.own 39) [(.lam 0 [0])])]))]⟩
noncomputable def jP:Fn:=⟨2,[],[(some 0),(some 1)],[],false,[
 (.aT (.bool true [(.val (.lv 1)),(.val (.cmp (.ag (.lv 0) (.own 23) []) .eq (.const (.d (.int 40)))))]) [(.ret (.comp false (.call (.const .lU) [(.lv 1)]) (.lv 1) (.ex (.call (.const (.fn 68)) [(.lv 0)])) [] 2 0 []))] []),
 (.ret (.ag (.lv 0) (.own 41) []))]⟩
noncomputable def ek:Fn:=⟨1,[],[(some 0),none],[],false,[
 (.assign (.lv 1) (.attr (.lv 0) .at)),
 (.expr (.ag (.lv 0) (.own 28) [(.const (.fn 64))])),
 (.aT (.val (.ag (.lv 0) (.own 24) [(.const (.d (.bytes [91])))])) [(.sR (.val (.cmp (.ag (.lv 0) (.own 23) []) .ne (.const (.d (.int 93))))) [(.aT (.val (.cmp (.ag (.lv 0) (.own 23) []) .eq (.const (.d (.int 34))))) [(.expr (.ag (.lv 0) (.own 34) []))] [(.aT (.val (.call (.const (.fn 65)) [(.ag (.lv 0) (.own 23) [])])) [(.assign (.attr (.lv 0) .at) (.bin .add (.attr (.lv 0) .at) (.const (.d (.int 1)))))] [.stop])])]),(.assign (.attr (.lv 0) .at) (.bin .add (.attr (.lv 0) .at) (.const (.d (.int 1))))),(.expr (.ag (.lv 0) (.own 28) [(.const (.fn 64))]))] []),
 (.aT (.val (.cmp (.attr (.lv 0) .at) .eq (.lv 1))) [.stop] []),
 (.ret (.ag (.const (.d (.str []))) .join [(.comp false (.call (.const (.bi .chr)) [(.lv 1)]) (.lv 1) (.ex (.slice (.attr (.lv 0) .data) (some (.lv 1)) (some (.attr (.lv 0) .at)))) [] 2 0 [])]))]⟩
noncomputable def fN:Fn:=⟨1,[],[(some 0),none],[],false,[
 (.assign (.lv 1) (.call (.const (.fn 70)) [(.lv 0)])),
 (.expr (.ag (.lv 0) (.own 26) [])),
 (.ret (.tuple [(.lv 1),(.call (.const (.fn 69)) [(.lv 0),(.cmp (.lv 1) .eq (.const (.d (.str [70,76,65,71,83]))))])]))]⟩
noncomputable def dM:Fn:=⟨1,[],[(some 0),none],[],false,[
 (.assign (.lv 1) (.list true [])),
 (.sR (.bool true [(.val (.cmp (.ag (.lv 0) (.own 23) []) .eq (.const (.d (.int 32))))),(.val (.call (.const (.fn 20)) [(.aT (.val (.cmp (.bin .add (.attr (.lv 0) .at) (.const (.d (.int 1)))) .lt (.call (.const (.bi .len)) [(.attr (.lv 0) .data)]))) (.sub (.attr (.lv 0) .data) (.bin .add (.attr (.lv 0) .at) (.const (.d (.int 1))))) (.const (.d (.int 0))))]))]) [(.expr (.ag (.lv 0) (.own 26) [])),(.expr (.ag (.lv 1) .append [(.ag (.lv 0) (.own 33) [])]))]),
 (.ret (.call (.const (.bi .bF)) [(.lv 1)]))]⟩
noncomputable def ib:Fn:=⟨1,[],[(some 0),none],[],false,[
 (.assign (.lv 1) (.ag (.lv 0) (.own 31) [])),
 (.expr (.ag (.lv 0) (.own 26) [])),
 (.ret (.tuple [(.lv 1),(.aT (.val (.cmp (.lv 1) .eq (.const (.d (.str [65,76,76]))))) (.call (.const (.fn 10)) [(.ag (.lv 0) (.own 32) [])]) (.ag (.lv 0) (.own 33) []))]))]⟩
noncomputable def fi:Fn:=⟨1,[],[(some 0),none],[],false,[
 (.assign (.lv 1) (.list true [])),
 (.sR (.val (.ag (.lv 0) (.own 24) [(.const (.d (.bytes [32])))])) [(.expr (.ag (.lv 1) .append [(.call (.const (.fn 66)) [(.lv 0)])]))]),
 (.ret (.call (.const (.bi .bF)) [(.lv 1)]))]⟩
noncomputable def iZ:Fn:=⟨1,[],[(some 0),none,none],[],false,[
 (.assign (.lv 1) (.attr (.lv 0) .at)),
 (.assign (.lv 2) (.ag (.const (.d (.str []))) .join [(.comp false (.call (.const (.bi .chr)) [(.lv 1)]) (.lv 1) (.ex (.ag (.lv 0) (.own 28) [(.const (.fn 65))])) [] 2 0 [])])),
 (.aT (.bool false [(.val (.cmp (.slice (.lv 2) none (some (.const (.d (.int 1))))) .eq (.const (.d (.str [91]))))),(.val (.cmp (.slice (.lv 2) (some (.neg (.const (.d (.int 1))))) none) .eq (.const (.d (.str [125])))))]) [.stop] []),
 (.ret (.lv 2))]⟩
noncomputable def dh:Fn:=⟨3,[],[(some 0),(some 1),(some 2),none,none],[],false,[
 (.aT (.bool false [(.val (.cmp (.lv 2) .A3 (.ag (.const (.d (.str [79,75,32,78,79,32,66,65,68,32,66,89,69,32,80,82,69,65,85,84,72]))) .split [(.const (.d (.str [32])))]))),(.bool true [(.val (.cmp (.lv 1) .ne (.const (.d (.str [42]))))),(.val (.cmp (.lv 2) .mem (.tuple [(.const (.d (.str [66,89,69]))),(.const (.d (.str [80,82,69,65,85,84,72])))])))])]) [.stop] []),
 (.expr (.ag (.lv 0) (.own 26) [])),
 (.assign (.lv 3) (.const (.d .none))),
 (.aT (.val (.ag (.lv 0) (.own 24) [(.const (.d (.bytes [91])))])) [(.assign (.lv 3) (.list true [(.ag (.lv 0) (.own 41) [])])),(.assign (.lv 4) (.gY true [(.call (.const (.bi .isinstance)) [(.sub (.lv 3) (.const (.d (.int 0)))),(.const .lU)]),(.cmp (.attr (.sub (.lv 3) (.const (.d (.int 0)))) .text) .eq (.const (.d (.str [80,69,82,77,65,78,69,78,84,70,76,65,71,83]))))])),(.sR (.not (.val (.ag (.lv 0) (.own 24) [(.const (.d (.bytes [93])))]))) [(.expr (.ag (.lv 0) (.own 26) [])),(.expr (.ag (.lv 3) .append [(.call (.const (.fn 69)) [(.lv 0),(.lv 4)])]))]),(.expr (.ag (.lv 0) (.own 26) []))] []),
 (.ret (.tuple [(.call (.const (.fn 5)) [(.lv 2)]),(.lv 1),(.lv 3),(.call (.const (.fn 75)) [(.lv 0)])]))]⟩
noncomputable def dr:Fn:=⟨2,[],[(some 1),none],[(some 0)],false,[
 (.expr (.ag (.cv 0) (.own 26) [])),
 (.assign (.lv 1) (.call (.const (.fn 6)) [(.call (.const (.fn 66)) [(.cv 0)])])),
 (.aT (.val (.cmp (.lv 1) .mem (.tuple [(.const (.d (.str [69,88,73,83,84,83]))),(.const (.d (.str [69,88,80,85,78,71,69])))]))) [(.ret (.tuple [(.call (.const (.fn 5)) [(.lv 1)]),(.lv 0)]))] []),
 (.aT (.val (.cmp (.lv 1) .ne (.const (.d (.str [70,69,84,67,72]))))) [.stop] []),
 (.expr (.ag (.cv 0) (.own 26) [])),
 (.ret (.tuple [(.const (.d (.str [102,101,116,99,104]))),(.lv 0),(.call (.const (.bi .bF)) [(.ag (.cv 0) (.own 39) [(.lam 1 [0])])])]))]⟩
noncomputable def gJ:Fn:=⟨2,[],[(some 1),none,none],[(some 0)],false,[
 (.expr (.ag (.cv 0) (.own 26) [])),
 (.aT (.val (.cmp (.lv 0) .eq (.const (.d (.str [70,76,65,71,83]))))) [(.ret (.tuple [(.const (.d (.str [102,108,97,103,115]))),(.call (.const (.fn 68)) [(.cv 0)])]))] []),
 (.aT (.val (.cmp (.lv 0) .eq (.const (.d (.str [83,84,65,84,85,83]))))) [(.assign (.lv 1) (.call (.const (.fn 67)) [(.cv 0)])),(.expr (.ag (.cv 0) (.own 26) [])),(.ret (.tuple [(.const (.d (.str [115,116,97,116,117,115]))),(.lv 1),(.call (.const (.bi .bF)) [(.ag (.cv 0) (.own 39) [(.lam 2 [0])])])]))] []),
 (.assign (.lv 2) (.call (.const (.fn 68)) [(.cv 0)])),
 (.expr (.ag (.cv 0) (.own 25) [(.const (.d (.bytes [32,34,47,34,32]))),(.const (.d (.str [97,32,100,101,108,105,109,105,116,101,114,32,105,115,32,109,105,115,115,105,110,103])))])),
 (.ret (.tuple [(.call (.const (.fn 5)) [(.lv 0)]),(.lv 2),(.call (.const (.fn 67)) [(.cv 0)])]))]⟩
noncomputable def ir:Fn:=⟨2,[],[(some 0),(some 1),none,none,none,none],[],false,[
 (.aT (.val (.cmp (.lv 1) .eq (.const (.d (.str [83,69,65,82,67,72]))))) [(.assign (.lv 2) (.call (.const (.fn 72)) [(.lv 0)])),(.assign (.lv 3) (.const (.d (.int 0)))),(.aT (.val (.ag (.lv 0) (.own 24) [(.const (.d (.bytes [32,40,77,79,68,83,69,81,32])))])) [(.assign (.lv 3) (.ag (.lv 0) (.own 33) [])),(.expr (.ag (.lv 0) (.own 25) [(.const (.d (.bytes [41]))),(.const (.d (.str [97,32,98,114,97,99,107,101,116,32,105,115,32,109,105,115,115,105,110,103])))]))] []),(.ret (.tuple [(.const (.d (.str [115,101,97,114,99,104]))),(.lv 2),(.lv 3)]))] []),
 (.aT (.val (.cmp (.lv 1) .eq (.const (.d (.str [83,79,82,84]))))) [(.ret (.tuple [(.const (.d (.str [115,111,114,116]))),(.call (.const (.fn 72)) [(.lv 0)])]))] []),
 (.aT (.val (.cmp (.lv 1) .eq (.const (.d (.str [84,72,82,69,65,68]))))) [(.ret (.tuple [(.const (.d (.str [116,104,114,101,97,100]))),(.aT (.val (.ag (.lv 0) (.own 24) [(.const (.d (.bytes [32])))])) (.ag (.lv 0) (.own 28) [(.const (.fn 65))]) (.const (.d (.bytes []))))]))] []),
 (.assign (.lv 4) (.const (.d (.str [])))),
 (.aT (.val (.ag (.lv 0) (.own 24) [(.const (.d (.bytes [32,40,84,65,71,32])))])) [(.assign (.lv 4) (.ag (.const (.d (.str []))) .join [(.comp false (.call (.const (.bi .chr)) [(.lv 1)]) (.lv 1) (.ex (.ag (.lv 0) (.own 36) [])) [] 2 0 [])])),(.expr (.ag (.lv 0) (.own 25) [(.const (.d (.bytes [41]))),(.const (.d (.str [97,32,98,114,97,99,107,101,116,32,105,115,32,109,105,115,115,105,110,103])))]))] []),
 (.assign (.lv 5) (.ag (.lv 0) (.own 24) [(.const (.d (.bytes [32,85,73,68])))])),
 (.assign (.lv 2) (.list true [])),
 (.sR (.val (.ag (.lv 0) (.own 24) [(.const (.d (.bytes [32])))])) [(.expr (.ag (.lv 2) .append [(.call (.const (.fn 73)) [(.lv 0)])]))]),
 (.ret (.tuple [(.const (.d (.str [101,115,101,97,114,99,104]))),(.lv 4),(.lv 5),(.call (.const (.bi .bF)) [(.lv 2)])]))]⟩
noncomputable def dq:Fn:=⟨1,[],[(some 0),none,none],[],false,[
 (.aT (.val (.call (.const (.fn 20)) [(.ag (.lv 0) (.own 23) [])])) [(.ret (.call (.const (.fn 77)) [(.lv 0),(.ag (.lv 0) (.own 33) [])]))] []),
 (.assign (.lv 1) (.call (.const (.fn 6)) [(.call (.const (.fn 66)) [(.lv 0)])])),
 (.aT (.val (.cmp (.lv 1) .mem (.tuple [(.const (.d (.str [70,76,65,71,83]))),(.const (.d (.str [83,84,65,84,85,83]))),(.const (.d (.str [76,73,83,84]))),(.const (.d (.str [76,83,85,66])))]))) [(.ret (.call (.const (.fn 78)) [(.lv 0),(.lv 1)]))] []),
 (.aT (.val (.cmp (.lv 1) .mem (.tuple [(.const (.d (.str [83,69,65,82,67,72]))),(.const (.d (.str [69,83,69,65,82,67,72]))),(.const (.d (.str [83,79,82,84]))),(.const (.d (.str [84,72,82,69,65,68])))]))) [(.ret (.call (.const (.fn 79)) [(.lv 0),(.lv 1)]))] []),
 (.aT (.val (.cmp (.lv 1) .mem (.tuple [(.const (.d (.str [67,65,80,65,66,73,76,73,84,89]))),(.const (.d (.str [69,78,65,66,76,69,68])))]))) [(.ret (.tuple [(.call (.const (.fn 5)) [(.lv 1)]),(.call (.const (.fn 74)) [(.lv 0)])]))] []),
 (.aT (.val (.cmp (.lv 1) .eq (.const (.d (.str [86,65,78,73,83,72,69,68]))))) [(.expr (.ag (.lv 0) (.own 26) [])),(.assign (.lv 2) (.ag (.lv 0) (.own 24) [(.const (.d (.bytes [40,69,65,82,76,73,69,82,41,32])))])),(.ret (.tuple [(.const (.d (.str [118,97,110,105,115,104,101,100]))),(.call (.const (.fn 10)) [(.ag (.lv 0) (.own 32) [])]),(.lv 2)]))] []),
 (.aT (.val (.cmp (.lv 1) .eq (.const (.d (.str [73,68]))))) [(.expr (.ag (.lv 0) (.own 25) [(.const (.d (.bytes [32,78,73,76]))),(.const (.d (.str [97,110,111,116,104,101,114,32,105,100,101,110,116,105,116,121])))])),(.ret (.tuple [(.const (.d (.str [105,100]))),(.const (.d .none))]))] []),
 (.aT (.val (.cmp (.lv 1) .eq (.const (.d (.str [78,65,77,69,83,80,65,67,69]))))) [(.expr (.ag (.lv 0) (.own 25) [(.const (.d (.bytes [32,40,40,34,34,32,34,47,34,41,41,32,78,73,76,32,78,73,76]))),(.const (.d (.str [97,110,111,116,104,101,114,32,110,97,109,101,115,112,97,99,101])))])),(.ret (.tuple [(.const (.d (.str [110,97,109,101,115,112,97,99,101])))]))] []),
 (.ret (.call (.const (.fn 76)) [(.lv 0),(.const (.d (.str [42]))),(.lv 1)]))]⟩
noncomputable def ej:Fn:=⟨1,[],[(some 0),none,none,none],[],false,[
 (.assign (.lv 1) (.call (.const .tS) [(.lv 0)])),
 (.aT (.val (.ag (.lv 1) (.own 24) [(.const (.d (.bytes [43,32])))])) [(.assign (.lv 2) (.tuple [(.const (.d (.str [103,111,32,111,110]))),(.call (.const (.fn 75)) [(.lv 1)])]))] [(.aT (.val (.ag (.lv 1) (.own 24) [(.const (.d (.bytes [42,32])))])) [(.assign (.lv 2) (.call (.const (.fn 80)) [(.lv 1)]))] [(.assign (.lv 3) (.ag (.lv 1) (.own 29) [(.const (.fn 17)),(.const (.d (.str [97,32,116,97,103,32,105,115,32,109,105,115,115,105,110,103])))])),(.expr (.ag (.lv 1) (.own 26) [])),(.assign (.lv 2) (.call (.const (.fn 76)) [(.lv 1),(.lv 3),(.call (.const (.fn 6)) [(.call (.const (.fn 66)) [(.lv 1)])])]))])]),
 (.expr (.ag (.lv 1) (.own 25) [(.const (.d (.bytes [13,10]))),(.const (.d (.str [109,111,114,101,32,116,104,97,110,32,97,110,32,97,110,115,119,101,114])))])),
 (.expr (.ag (.lv 1) (.own 27) [])),
 (.ret (.lv 2))]⟩
noncomputable def dR:Fn:=⟨1,[],[(some 0),none,none,none],[],false,[
 (.assign (.lv 1) (.list true [])),
 (.assign (.lv 2) (.const (.d (.int 0)))),
 (.assign (.lv 3) (.sub (.call (.const (.fn 49)) [(.lv 0),(.lv 2)]) (.const (.d (.int 0))))),
 (.sR (.val (.cmp (.lv 3) .ge (.const (.d (.int 0))))) [(.expr (.ag (.lv 1) .append [(.call (.const (.fn 81)) [(.slice (.lv 0) (some (.lv 2)) (some (.lv 3)))])])),(.assign (.lv 2) (.lv 3)),(.assign (.lv 3) (.sub (.call (.const (.fn 49)) [(.lv 0),(.lv 2)]) (.const (.d (.int 0)))))]),
 (.ret (.tuple [(.lv 1),(.slice (.lv 0) (some (.lv 2)) none)]))]⟩
noncomputable def i_:Fn:=⟨0,[],[],[],false,[
 (.ret (.tuple [(.const (.d (.bytes [112,108,97,105,110]))),(.const (.d (.bytes []))),(.const (.d (.bytes [97,34,98,92]))),(.const (.d (.bytes [108,13,10,114]))),(.const (.d (.bytes [110,105,108]))),(.const (.d (.bytes [116,9,98]))),(.const (.d (.bytes [0,255]))),(.bin .mul (.const (.d (.bytes [121]))) (.const (.d (.int 72)))),(.bin .mul (.const (.d (.bytes [122]))) (.const (.d (.int 100))))]))]⟩
noncomputable def rh:Fn:=⟨1,[],[(some 0)],[],true,[
 (.ret (.list true [(.comp true (.bin .mod (.call (.const (.bi .abs)) [(.call (.const (.bi .u9)) [(.lv 1)])]) (.bin .pow (.const (.d (.int 10))) (.const (.d (.int 60))))) (.lv 1) (.ex (.slice (.lv 0) none (some (.const (.d (.int 40)))))) [] 2 0 []),(.const (.d (.int 0))),(.const (.d (.int 0))),(.const (.d (.int 26)))]))]⟩
noncomputable def nE:Fn:=⟨2,[],[(some 0),(some 1),none,none,none],[],false,[
 (.assign (.tup [(.lv 2),(.lv 3)]) (.tuple [(.sub (.lv 0) (.const (.d (.int 0)))),(.sub (.lv 0) (.const (.d (.int 1))))])),
 (.aT (.val (.cmp (.lv 3) .ge (.call (.const (.bi .len)) [(.lv 2)]))) [(.assign (.sub (.lv 0) (.const (.d (.int 2)))) (.bin .add (.sub (.lv 0) (.const (.d (.int 2)))) (.const (.d (.int 1))))),(.ret (.bin .mod (.bin .add (.bin .mul (.const (.d (.int 7))) (.sub (.lv 0) (.const (.d (.int 2))))) (.bin .fdiv (.bin .mul (.sub (.lv 0) (.const (.d (.int 2)))) (.sub (.lv 0) (.const (.d (.int 2))))) (.const (.d (.int 9))))) (.lv 1)))] []),
 (.assign (.lv 4) (.bin .mod (.sub (.lv 2) (.lv 3)) (.lv 1))),
 (.assign (.sub (.lv 2) (.lv 3)) (.bin .fdiv (.sub (.lv 2) (.lv 3)) (.lv 1))),
 (.aT (.val (.cmp (.sub (.lv 2) (.lv 3)) .eq (.const (.d (.int 0))))) [(.assign (.sub (.lv 0) (.const (.d (.int 1)))) (.bin .add (.lv 3) (.const (.d (.int 1)))))] []),
 (.ret (.lv 4))]⟩
noncomputable def rK:Fn:=⟨2,[],[(some 0),(some 1)],[],false,[
 (.ret (.sub (.lv 1) (.call (.const (.fn 85)) [(.lv 0),(.call (.const (.bi .len)) [(.lv 1)])])))]⟩
noncomputable def jX:Fn:=⟨1,[],[(some 0)],[],false,[
 (.ret (.call (.const (.bi .cV)) [(.comp false (.call (.const (.bi .ord)) [(.lv 1)]) (.lv 1) (.ex (.lv 0)) [] 2 0 [])]))]⟩
noncomputable def nR:Fn:=⟨2,[],[(some 0),(some 1)],[],false,[
 (.ret (.call (.const (.fn 87)) [(.call (.const (.fn 86)) [(.lv 0),(.tuple [(.lv 1),(.ag (.lv 1) .lower []),(.bin .add (.slice (.lv 1) none (some (.const (.d (.int 1))))) (.ag (.slice (.lv 1) (some (.const (.d (.int 1)))) none) .lower []))])])]))]⟩
noncomputable def ku:Fn:=⟨2,[],[(some 0),(some 1),none,none],[],false,[
 (.assign (.lv 2) (.call (.const (.fn 86)) [(.lv 0),(.tuple [(.call (.const (.fn 85)) [(.lv 0),(.const (.d (.int 10)))]),(.bin .sub (.bin .sub (.bin .pow (.const (.d (.int 10))) (.lv 1)) (.const (.d (.int 1)))) (.call (.const (.fn 85)) [(.lv 0),(.const (.d (.int 1000)))])),(.call (.const (.fn 85)) [(.lv 0),(.bin .pow (.const (.d (.int 10))) (.lv 1))])])])),
 (.assign (.lv 3) (.call (.const (.bi .mS)) [(.lv 2)])),
 (.ret (.tuple [(.lv 2),(.call (.const (.fn 87)) [(.bin .add (.bin .mul (.const (.d (.str [48]))) (.call (.const (.bi .min)) [(.call (.const (.fn 85)) [(.lv 0),(.const (.d (.int 3)))]),(.bin .sub (.const (.d (.int 19))) (.call (.const (.bi .len)) [(.lv 3)]))])) (.lv 3))]),(.call (.const (.fn 87)) [(.lv 3)])]))]⟩
noncomputable def kz:Fn:=⟨1,[],[(some 0)],[],false,[
 (.ret (.bin .add (.bin .add (.const (.d (.bytes [34]))) (.ag (.ag (.lv 0) .replace [(.const (.d (.bytes [92]))),(.const (.d (.bytes [92,92])))]) .replace [(.const (.d (.bytes [34]))),(.const (.d (.bytes [92,34])))])) (.const (.d (.bytes [34])))))]⟩
noncomputable def c_:Fn:=⟨2,[],[(some 0),(some 1),none,none,none,none],[],false,[
 (.assign (.lv 2) (.call (.const (.fn 87)) [(.call (.const (.bi .mS)) [(.call (.const (.bi .len)) [(.lv 1)])])])),
 (.assign (.lv 3) (.list false [(.bin .add (.bin .add (.bin .add (.const (.d (.bytes [123]))) (.lv 2)) (.const (.d (.bytes [125,13,10])))) (.lv 1)),(.bin .add (.bin .add (.bin .add (.const (.d (.bytes [123]))) (.lv 2)) (.const (.d (.bytes [43,125,13,10])))) (.lv 1))])),
 (.assign (.lv 4) (.bin .add (.lv 3) (.aT (.val (.cmp (.comp false (.lv 1) (.lv 1) (.ex (.lv 1)) [(.bool false [(.not (.val (.iX (.const (.d (.int 0))) .lt (.lv 1) .lt (.const (.d (.int 128)))))),(.val (.cmp (.lv 1) .mem (.tuple [(.const (.d (.int 10))),(.const (.d (.int 13)))])))])] 2 0 []) .eq (.list false []))) (.list false [(.call (.const (.fn 90)) [(.lv 1)])]) (.list false [])))),
 (.assign (.lv 5) (.gY true [(.cmp (.call (.const (.bi .len)) [(.lv 1)]) .le (.const (.d (.int 72)))),(.cmp (.comp false (.lv 1) (.lv 1) (.ex (.lv 1)) [(.not (.val (.iX (.const (.d (.int 31))) .lt (.lv 1) .lt (.const (.d (.int 127))))))] 2 0 []) .eq (.list false []))])),
 (.ret (.tuple [(.lv 1),(.call (.const (.fn 86)) [(.lv 0),(.rev (.lv 4))]),(.aT (.val (.lv 5)) (.call (.const (.fn 90)) [(.lv 1)]) (.sub (.lv 3) (.const (.d (.int 0)))))]))]⟩
noncomputable def bu:Fn:=⟨2,[],[none,none,none,none],[(some 0),(some 1)],false,[
 (.assign (.lv 0) (.call (.const (.fn 85)) [(.cv 0),(.const (.d (.int 7)))])),
 (.assign (.sub (.cv 0) (.const (.d (.int 3)))) (.bin .sub (.sub (.cv 0) (.const (.d (.int 3)))) (.const (.d (.int 1))))),
 (.aT (.bool false [(.val (.cmp (.lv 0) .eq (.const (.d (.int 0))))),(.val (.cmp (.sub (.cv 0) (.const (.d (.int 3)))) .lt (.const (.d (.int 0)))))]) [(.ret (.tuple [(.const (.d .none)),(.call (.const (.fn 86)) [(.cv 0),(.tuple [(.const (.d (.bytes [78,73,76]))),(.const (.d (.bytes [110,105,108]))),(.const (.d (.bytes [78,105,108])))])]),(.const (.d (.bytes [78,73,76])))]))] []),
 (.aT (.val (.cmp (.lv 0) .lt (.const (.d (.int 3))))) [(.ret (.call (.const (.fn 89)) [(.cv 0),(.const (.d (.int 19)))]))] []),
 (.aT (.val (.cmp (.lv 0) .eq (.const (.d (.int 3))))) [(.assign (.lv 1) (.call (.const (.fn 86)) [(.cv 0),(.tuple [(.const (.d (.str [92,83,101,101,110]))),(.const (.d (.str [49,58,51]))),(.const (.d (.str [97,45,98]))),(.const (.d (.str [120,46,89]))),(.const (.d (.str [78,73,76,83])))])])),(.ret (.tuple [(.tuple [(.const (.d (.str [97,116,111,109]))),(.lv 1)]),(.call (.const (.fn 87)) [(.lv 1)]),(.call (.const (.fn 87)) [(.lv 1)])]))] []),
 (.aT (.bool false [(.val (.cmp (.lv 0) .lt (.const (.d (.int 5))))),(.val (.cmp (.cv 1) .gt (.const (.d (.int 2)))))]) [(.assign (.lv 2) (.call (.const (.fn 86)) [(.cv 0),(.call (.const (.fn 83)) [])])),(.assign (.sub (.cv 0) (.const (.d (.int 3)))) (.bin .sub (.sub (.cv 0) (.const (.d (.int 3)))) (.bin .fdiv (.call (.const (.bi .len)) [(.lv 2)]) (.const (.d (.int 20)))))),(.ret (.call (.const (.fn 91)) [(.cv 0),(.lv 2)]))] []),
 (.assign (.lv 3) (.comp false (.call (.const (.fn 92)) [(.cv 1),(.bin .add (.cv 0) (.const (.d (.int 1))))]) (.lv 1) (.range [(.call (.const (.fn 85)) [(.cv 0),(.const (.d (.int 4)))])]) [] 2 0 [1,0])),
 (.ret (.tuple [(.call (.const (.bi .bF)) [(.comp false (.sub (.lv 1) (.const (.d (.int 0)))) (.lv 1) (.ex (.lv 3)) [] 2 0 [])]),(.bin .add (.bin .add (.const (.d (.bytes [40]))) (.ag (.const (.d (.bytes [32]))) .join [(.comp false (.sub (.lv 1) (.const (.d (.int 1)))) (.lv 1) (.ex (.lv 3)) [] 2 0 [])])) (.const (.d (.bytes [41])))),(.bin .add (.bin .add (.const (.d (.bytes [40]))) (.ag (.const (.d (.bytes [32]))) .join [(.comp false (.sub (.lv 1) (.const (.d (.int 2)))) (.lv 1) (.ex (.lv 3)) [] 2 0 [])])) (.const (.d (.bytes [41]))))]))]⟩
noncomputable def ml:Fn:=⟨1,[],[none,none],[(some 0)],false,[
 (.assign (.lv 0) (.comp false (.call (.const (.fn 86)) [(.cv 0),(.tuple [(.const (.d (.str [92,83,101,101,110]))),(.const (.d (.str [92,42]))),(.const (.d (.str [36,77,105,110,101]))),(.const (.d (.str [49,50]))),(.const (.d (.str [78,73,76])))])]) (.lv 1) (.range [(.call (.const (.fn 85)) [(.cv 0),(.const (.d (.int 4)))])]) [] 2 0 [0])),
 (.assign (.lv 1) (.call (.const (.fn 87)) [(.bin .add (.bin .add (.const (.d (.str [40]))) (.ag (.const (.d (.str [32]))) .join [(.lv 0)])) (.const (.d (.str [41]))))])),
 (.ret (.tuple [(.call (.const (.bi .bF)) [(.lv 0)]),(.call (.const (.bi .bF)) [(.comp false (.tuple [(.const (.d (.str [97,116,111,109]))),(.lv 1)]) (.lv 1) (.ex (.lv 0)) [] 2 0 [])]),(.lv 1)]))]⟩
noncomputable def d6:Fn:=⟨1,[],[none,none,none,none,none,none,none,none,none,none,none,none],[(some 0),none],false,[
 (.assign (.tup [(.lv 0),(.lv 1)]) (.tuple [(.call (.const (.fn 86)) [(.cv 0),(.tuple [(.const (.d (.str [79,75]))),(.const (.d (.str [78,79]))),(.const (.d (.str [66,65,68]))),(.const (.d (.str [66,89,69]))),(.const (.d (.str [80,82,69,65,85,84,72])))])]),(.call (.const (.fn 86)) [(.cv 0),(.const (.d (.tuple [(.str [100,111,110,101]),(.str []),(.str [97,32,123,51,125,32,98]),(.str [42,32,79,75]),(.str [120,93,32,121,32,53])])))])])),
 (.assign (.tup [(.lv 2),(.lv 3)]) (.tuple [(.aT (.val (.cmp (.lv 0) .mem (.tuple [(.const (.d (.str [66,89,69]))),(.const (.d (.str [80,82,69,65,85,84,72])))]))) (.const (.d (.str [42]))) (.call (.const (.fn 86)) [(.cv 0),(.tuple [(.const (.d (.str [97,49]))),(.const (.d (.str [42]))),(.const (.d (.str [84,46,57])))])])),(.call (.const (.fn 85)) [(.cv 0),(.const (.d (.int 4)))])])),
 (.assign (.tup [(.lv 4),(.lv 5),(.lv 6),(.lv 7)]) (.tuple [(.call (.const (.fn 87)) [(.bin .add (.lv 2) (.const (.d (.str [32]))))]),(.const (.d .none)),(.const (.d (.bytes []))),(.const (.d (.bytes [])))])),
 (.aT (.val (.cmp (.lv 3) .eq (.const (.d (.int 1))))) [(.assign (.lv 8) (.call (.const (.fn 86)) [(.cv 0),(.tuple [(.const (.d (.str [82,69,65,68,45,87,82,73,84,69]))),(.const (.d (.str [67,76,79,83,69,68]))),(.const (.d (.str [65,108,101,114,116]))),(.const (.d (.str [120])))])])),(.assign (.tup [(.lv 5),(.lv 6)]) (.tuple [(.tuple [(.tuple [(.const (.d (.str [97,116,111,109]))),(.lv 8)])]),(.bin .add (.bin .add (.const (.d (.bytes [91]))) (.call (.const (.fn 87)) [(.lv 8)])) (.const (.d (.bytes [93,32]))))])),(.assign (.lv 7) (.lv 6))] [(.aT (.val (.cmp (.lv 3) .eq (.const (.d (.int 2))))) [(.assign (.tup [(.lv 9),(.lv 5),(.lv 10)]) (.call (.const (.fn 93)) [(.cv 0)])),(.assign (.tup [(.lv 5),(.lv 6)]) (.tuple [(.tuple [(.tuple [(.const (.d (.str [97,116,111,109]))),(.const (.d (.str [80,69,82,77,65,78,69,78,84,70,76,65,71,83])))]),(.lv 5)]),(.bin .add (.bin .add (.const (.d (.bytes [91,80,69,82,77,65,78,69,78,84,70,76,65,71,83,32]))) (.lv 10)) (.const (.d (.bytes [93,32]))))])),(.assign (.lv 7) (.lv 6))] [(.aT (.val (.cmp (.lv 3) .eq (.const (.d (.int 3))))) [(.assign (.cv 1) (.comp false (.call (.const (.fn 92)) [(.cv 0),(.const (.d (.int 1)))]) (.lv 1) (.range [(.bin .add (.const (.d (.int 1))) (.call (.const (.fn 85)) [(.cv 0),(.const (.d (.int 2)))]))]) [] 2 0 [0])),(.assign (.lv 5) (.bin .add (.tuple [(.tuple [(.const (.d (.str [97,116,111,109]))),(.const (.d (.str [67,79,80,89,85,73,68])))])]) (.call (.const (.bi .bF)) [(.comp false (.sub (.lv 1) (.const (.d (.int 0)))) (.lv 1) (.ex (.cv 1)) [] 2 0 [])]))),(.assign (.tup [(.lv 6),(.lv 7)]) (.comp false (.bin .add (.bin .add (.const (.d (.bytes [91,67,79,80,89,85,73,68,32]))) (.ag (.const (.d (.bytes [32]))) .join [(.comp false (.sub (.lv 1) (.cv 0)) (.lv 1) (.ex (.cv 1)) [] 2 0 [0])])) (.const (.d (.bytes [93,32])))) (.cv 0) (.ex (.tuple [(.const (.d (.int 1))),(.const (.d (.int 2)))])) [] 1 1 [1]))] [])])]),
 (.assign (.lv 11) (.bin .add (.call (.const (.fn 87)) [(.lv 1)]) (.const (.d (.bytes [13,10]))))),
 (.ret (.tuple [(.tuple [(.ag (.lv 0) .lower []),(.lv 2),(.lv 5),(.lv 1)]),(.bin .add (.bin .add (.bin .add (.bin .add (.lv 4) (.call (.const (.fn 88)) [(.cv 0),(.lv 0)])) (.const (.d (.bytes [32])))) (.lv 6)) (.lv 11)),(.bin .add (.bin .add (.bin .add (.bin .add (.lv 4) (.call (.const (.fn 87)) [(.lv 0)])) (.const (.d (.bytes [32])))) (.lv 7)) (.lv 11))]))]⟩
noncomputable def b_:Fn:=⟨1,[],[(some 0),none,none,none,none,none,none,none,none,none,none,none,none],[none],false,[
 (.assign (.tup [(.lv 1),(.lv 2),(.lv 3)]) (.call (.const (.fn 89)) [(.lv 0),(.const (.d (.int 19)))])),
 (.assign (.lv 4) (.call (.const (.fn 86)) [(.lv 0),(.tuple [(.const (.d (.str [69,88,73,83,84,83]))),(.const (.d (.str [69,88,80,85,78,71,69]))),(.const (.d (.str [70,69,84,67,72]))),(.const (.d (.str [70,69,84,67,72])))])])),
 (.aT (.val (.cmp (.lv 4) .ne (.const (.d (.str [70,69,84,67,72]))))) [(.ret (.tuple [(.tuple [(.ag (.lv 4) .lower []),(.lv 1)]),(.bin .add (.bin .add (.bin .add (.bin .add (.const (.d (.bytes [42,32]))) (.lv 2)) (.const (.d (.bytes [32])))) (.call (.const (.fn 88)) [(.lv 0),(.lv 4)])) (.const (.d (.bytes [13,10])))),(.bin .add (.bin .add (.bin .add (.bin .add (.const (.d (.bytes [42,32]))) (.lv 3)) (.const (.d (.bytes [32])))) (.call (.const (.fn 87)) [(.lv 4)])) (.const (.d (.bytes [13,10]))))]))] []),
 (.assign (.cv 0) (.list true [])),
 (.FN (.lv 5) (.range [(.call (.const (.fn 85)) [(.lv 0),(.const (.d (.int 4)))])]) [(.assign (.lv 6) (.call (.const (.fn 86)) [(.lv 0),(.tuple [(.const (.d (.str [66,79,68,89,83,84,82,85,67,84,85,82,69]))),(.const (.d (.str [70,76,65,71,83]))),(.const (.d (.str [85,73,68]))),(.const (.d (.str [66,79,68,89,91,72,69,65,68,69,82,46,70,73,69,76,68,83,32,40,65,32,34,120,93,121,34,41,93,60,48,62]))),(.const (.d (.str [82,70,67,56,50,50,46,83,73,90,69])))])])),(.aT (.val (.cmp (.lv 6) .eq (.const (.d (.str [70,76,65,71,83]))))) [(.assign (.tup [(.lv 7),(.lv 8),(.lv 9)]) (.call (.const (.fn 93)) [(.lv 0)])),(.expr (.ag (.cv 0) .append [(.tuple [(.tuple [(.lv 6),(.lv 8)]),(.lv 9),(.lv 9)])]))] [(.assign (.tup [(.lv 8),(.lv 10),(.lv 11)]) (.call (.const (.fn 92)) [(.lv 0),(.const (.d (.int 0)))])),(.expr (.ag (.cv 0) .append [(.tuple [(.tuple [(.lv 6),(.lv 8)]),(.bin .add (.bin .add (.call (.const (.fn 87)) [(.lv 6)]) (.const (.d (.bytes [32])))) (.lv 10)),(.bin .add (.bin .add (.call (.const (.fn 87)) [(.lv 6)]) (.const (.d (.bytes [32])))) (.lv 11))])]))])]),
 (.assign (.cv 0) (.comp false (.tuple [(.lv 1),(.aT (.val (.cmp (.sub (.lv 1) (.const (.d (.int 0)))) .eq (.const (.d (.str [70,76,65,71,83]))))) (.bin .add (.const (.d (.bytes [70,76,65,71,83,32]))) (.lv 2)) (.lv 2)),(.aT (.val (.cmp (.sub (.lv 1) (.const (.d (.int 0)))) .eq (.const (.d (.str [70,76,65,71,83]))))) (.bin .add (.const (.d (.bytes [70,76,65,71,83,32]))) (.lv 3)) (.lv 3))]) (.tup [(.lv 1),(.lv 2),(.lv 3)]) (.ex (.cv 0)) [] 4 0 [])),
 (.assign (.lv 12) (.comp false (.bin .add (.bin .add (.const (.d (.bytes [32,40]))) (.ag (.const (.d (.bytes [32]))) .join [(.comp false (.sub (.lv 1) (.cv 0)) (.lv 1) (.ex (.cv 1)) [] 2 0 [0])])) (.const (.d (.bytes [41,13,10])))) (.cv 0) (.ex (.tuple [(.const (.d (.int 1))),(.const (.d (.int 2)))])) [] 1 1 [0])),
 (.ret (.tuple [(.tuple [(.const (.d (.str [102,101,116,99,104]))),(.lv 1),(.call (.const (.bi .bF)) [(.comp false (.sub (.lv 1) (.const (.d (.int 0)))) (.lv 1) (.ex (.cv 0)) [] 2 0 [])])]),(.bin .add (.bin .add (.bin .add (.bin .add (.const (.d (.bytes [42,32]))) (.lv 2)) (.const (.d (.bytes [32])))) (.call (.const (.fn 88)) [(.lv 0),(.lv 4)])) (.sub (.lv 12) (.const (.d (.int 0))))),(.bin .add (.bin .add (.bin .add (.const (.d (.bytes [42,32]))) (.lv 3)) (.const (.d (.bytes [32,70,69,84,67,72])))) (.sub (.lv 12) (.const (.d (.int 1)))))]))]⟩
noncomputable def dj:Fn:=⟨1,[],[none,none,none,none,none,none,none,none,none,none,none,none,none,none],[(some 0)],false,[
 (.assign (.tup [(.lv 0),(.lv 1)]) (.tuple [(.call (.const (.fn 86)) [(.cv 0),(.tuple [(.const (.d (.str [76,73,83,84]))),(.const (.d (.str [76,83,85,66]))),(.const (.d (.str [83,84,65,84,85,83]))),(.const (.d (.str [70,76,65,71,83])))])]),(.call (.const (.fn 86)) [(.cv 0),(.const (.d (.tuple [(.tuple [(.str [73,78,66,79,88]),(.bool true)]),(.tuple [(.str [97,32,98]),(.bool false)]),(.tuple [(.str []),(.bool false)]),(.tuple [(.str [110,105,108]),(.bool true)]),(.tuple [(.str [120,47,121,93]),(.bool true)]),(.tuple [(.str [40]),(.bool false)])])))])])),
 (.assign (.tup [(.lv 2),(.lv 3),(.lv 4)]) (.call (.const (.fn 93)) [(.cv 0)])),
 (.assign (.lv 5) (.bin .add (.bin .add (.const (.d (.bytes [42,32]))) (.call (.const (.fn 88)) [(.cv 0),(.lv 0)])) (.const (.d (.bytes [32]))))),
 (.aT (.val (.cmp (.lv 0) .eq (.const (.d (.str [70,76,65,71,83]))))) [(.ret (.tuple [(.tuple [(.const (.d (.str [102,108,97,103,115]))),(.lv 2)]),(.bin .add (.bin .add (.lv 5) (.lv 4)) (.const (.d (.bytes [13,10])))),(.bin .add (.bin .add (.const (.d (.bytes [42,32,70,76,65,71,83,32]))) (.lv 4)) (.const (.d (.bytes [13,10]))))]))] []),
 (.assign (.tup [(.lv 6),(.lv 7),(.lv 8)]) (.call (.const (.fn 91)) [(.cv 0),(.call (.const (.fn 87)) [(.sub (.lv 1) (.const (.d (.int 0))))])])),
 (.assign (.lv 9) (.aT (.bool true [(.val (.sub (.lv 1) (.const (.d (.int 1))))),(.val (.cmp (.call (.const (.fn 85)) [(.cv 0),(.const (.d (.int 2)))]) .eq (.const (.d (.int 0)))))]) (.lv 6) (.lv 7))),
 (.assign (.lv 8) (.aT (.bool true [(.val (.sub (.lv 1) (.const (.d (.int 1))))),(.val (.cmp (.sub (.lv 1) (.const (.d (.int 0)))) .ne (.const (.d (.str [110,105,108])))))]) (.lv 6) (.lv 8))),
 (.aT (.val (.cmp (.lv 0) .ne (.const (.d (.str [83,84,65,84,85,83]))))) [(.assign (.lv 10) (.bin .add (.lv 4) (.const (.d (.bytes [32,34,47,34,32]))))),(.ret (.tuple [(.tuple [(.ag (.lv 0) .lower []),(.lv 2),(.sub (.lv 1) (.const (.d (.int 0))))]),(.bin .add (.bin .add (.bin .add (.lv 5) (.lv 10)) (.lv 9)) (.const (.d (.bytes [13,10])))),(.bin .add (.bin .add (.bin .add (.bin .add (.bin .add (.const (.d (.bytes [42,32]))) (.call (.const (.fn 87)) [(.lv 0)])) (.const (.d (.bytes [32])))) (.lv 10)) (.lv 8)) (.const (.d (.bytes [13,10]))))]))] []),
 (.assign (.lv 11) (.comp false (.tuple [(.lv 1),(.call (.const (.fn 89)) [(.cv 0),(.const (.d (.int 19)))]),(.call (.const (.fn 88)) [(.cv 0),(.lv 1)])]) (.lv 1) (.ex (.slice (.tuple [(.const (.d (.str [77,69,83,83,65,71,69,83]))),(.const (.d (.str [85,73,68,78,69,88,84])))]) none (some (.call (.const (.fn 85)) [(.cv 0),(.const (.d (.int 3)))])))) [] 2 0 [0])),
 (.assign (.lv 12) (.ag (.const (.d (.bytes [32]))) .join [(.comp false (.bin .add (.bin .add (.lv 3) (.const (.d (.bytes [32])))) (.sub (.lv 2) (.const (.d (.int 1))))) (.tup [(.lv 1),(.lv 2),(.lv 3)]) (.ex (.lv 11)) [] 4 0 [])])),
 (.assign (.lv 13) (.ag (.const (.d (.bytes [32]))) .join [(.comp false (.bin .add (.bin .add (.call (.const (.fn 87)) [(.lv 1)]) (.const (.d (.bytes [32])))) (.sub (.lv 2) (.const (.d (.int 2))))) (.tup [(.lv 1),(.lv 2),(.lv 3)]) (.ex (.lv 11)) [] 4 0 [])])),
 (.assign (.lv 3) (.tuple [(.const (.d (.str [115,116,97,116,117,115]))),(.sub (.lv 1) (.const (.d (.int 0)))),(.call (.const (.bi .bF)) [(.comp false (.tuple [(.lv 1),(.sub (.lv 2) (.const (.d (.int 0))))]) (.tup [(.lv 1),(.lv 2),(.lv 3)]) (.ex (.lv 11)) [] 4 0 [])])])),
 (.ret (.tuple [(.lv 3),(.bin .add (.bin .add (.bin .add (.bin .add (.lv 5) (.lv 9)) (.const (.d (.bytes [32,40])))) (.lv 12)) (.const (.d (.bytes [41,13,10])))),(.bin .add (.bin .add (.bin .add (.bin .add (.const (.d (.bytes [42,32,83,84,65,84,85,83,32]))) (.lv 8)) (.const (.d (.bytes [32,40])))) (.lv 13)) (.const (.d (.bytes [41,13,10]))))]))]⟩
noncomputable def aY:Fn:=⟨1,[],[none,none,none,none,none,none,none,none,none,none,none,none,none,none,none,none,none,none],[(some 0),none],false,[
 (.assign (.lv 0) (.call (.const (.fn 86)) [(.cv 0),(.tuple [(.const (.d (.str [83,69,65,82,67,72]))),(.const (.d (.str [83,79,82,84]))),(.const (.d (.str [69,83,69,65,82,67,72]))),(.const (.d (.str [86,65,78,73,83,72,69,68]))),(.const (.d (.str [67,65,80,65,66,73,76,73,84,89]))),(.const (.d (.str [84,72,82,69,65,68])))])])),
 (.assign (.tup [(.lv 1),(.lv 2)]) (.tuple [(.bin .add (.const (.d (.bytes [42,32]))) (.call (.const (.fn 88)) [(.cv 0),(.lv 0)])),(.bin .add (.const (.d (.bytes [42,32]))) (.call (.const (.fn 87)) [(.lv 0)]))])),
 (.aT (.val (.cmp (.lv 0) .mem (.tuple [(.const (.d (.str [83,69,65,82,67,72]))),(.const (.d (.str [83,79,82,84])))]))) [(.assign (.lv 3) (.comp false (.call (.const (.fn 89)) [(.cv 0),(.const (.d (.int 19)))]) (.lv 1) (.range [(.call (.const (.fn 85)) [(.cv 0),(.const (.d (.int 4)))])]) [] 2 0 [0])),(.assign (.tup [(.cv 1),(.lv 4),(.lv 5)]) (.aT (.bool true [(.val (.cmp (.lv 0) .eq (.const (.d (.str [83,69,65,82,67,72]))))),(.val (.cmp (.call (.const (.fn 85)) [(.cv 0),(.const (.d (.int 2)))]) .eq (.const (.d (.int 0)))))]) (.call (.const (.fn 89)) [(.cv 0),(.const (.d (.int 19)))]) (.tuple [(.const (.d (.int 0))),(.const (.d (.bytes []))),(.const (.d (.bytes [])))]))),(.assign (.lv 6) (.bin .add (.tuple [(.ag (.lv 0) .lower []),(.call (.const (.bi .bF)) [(.comp false (.sub (.lv 1) (.const (.d (.int 0)))) (.lv 1) (.ex (.lv 3)) [] 2 0 [])])]) (.aT (.val (.cmp (.lv 0) .eq (.const (.d (.str [83,69,65,82,67,72]))))) (.tuple [(.cv 1)]) (.tuple [])))),(.assign (.lv 8) (.comp false (.aT (.bool true [(.val (.cmp (.lv 2) .ne (.const (.d (.bytes []))))),(.bool false [(.val (.cmp (.cv 0) .gt (.const (.d (.int 0))))),(.val (.cmp (.lv 1) .eq (.const (.d (.int 0)))))])]) (.bin .add (.bin .add (.const (.d (.bytes [32,40,77,79,68,83,69,81,32]))) (.lv 2)) (.const (.d (.bytes [41,13,10])))) (.const (.d (.bytes [13,10])))) (.tup [(.lv 1),(.lv 2)]) (.enum (.tuple [(.lv 4),(.lv 5)])) [] 3 0 [1])),(.ret (.tuple [(.lv 6),(.bin .add (.bin .add (.lv 1) (.ag (.const (.d (.bytes []))) .join [(.comp false (.bin .add (.const (.d (.bytes [32]))) (.sub (.lv 1) (.const (.d (.int 1))))) (.lv 1) (.ex (.lv 3)) [] 2 0 [])])) (.sub (.lv 8) (.const (.d (.int 0))))),(.bin .add (.bin .add (.lv 2) (.ag (.const (.d (.bytes []))) .join [(.comp false (.bin .add (.const (.d (.bytes [32]))) (.sub (.lv 1) (.const (.d (.int 2))))) (.lv 1) (.ex (.lv 3)) [] 2 0 [])])) (.sub (.lv 8) (.const (.d (.int 1)))))]))] []),
 (.aT (.val (.cmp (.lv 0) .eq (.const (.d (.str [69,83,69,65,82,67,72]))))) [(.assign (.tup [(.lv 9),(.lv 4),(.lv 5)]) (.call (.const (.fn 89)) [(.cv 0),(.const (.d (.int 19)))])),(.assign (.tup [(.lv 10),(.lv 7),(.lv 11)]) (.call (.const (.fn 91)) [(.cv 0),(.call (.const (.fn 86)) [(.cv 0),(.tuple [(.const (.d (.bytes [97,49]))),(.const (.d (.bytes [120,32,121])))])])])),(.assign (.lv 12) (.call (.const (.fn 86)) [(.cv 0),(.tuple [(.const (.d (.str [67,79,85,78,84]))),(.const (.d (.str [77,65,88])))])])),(.assign (.lv 13) (.aT (.val (.cmp (.call (.const (.fn 85)) [(.cv 0),(.const (.d (.int 2)))]) .eq (.const (.d (.int 0))))) (.const (.d (.bytes [32,85,73,68]))) (.const (.d (.bytes []))))),(.assign (.lv 6) (.tuple [(.const (.d (.str [101,115,101,97,114,99,104]))),(.ag (.const (.d (.str []))) .join [(.comp false (.call (.const (.bi .chr)) [(.lv 1)]) (.lv 1) (.ex (.lv 10)) [] 2 0 [])]),(.cmp (.lv 13) .ne (.const (.d (.bytes [])))),(.tuple [(.tuple [(.lv 12),(.lv 9)])])])),(.assign (.lv 14) (.bin .add (.bin .add (.const (.d (.bytes [41]))) (.lv 13)) (.const (.d (.bytes [32]))))),(.ret (.tuple [(.lv 6),(.bin .add (.bin .add (.bin .add (.bin .add (.bin .add (.bin .add (.bin .add (.lv 1) (.const (.d (.bytes [32,40,84,65,71,32])))) (.lv 7)) (.lv 14)) (.call (.const (.fn 88)) [(.cv 0),(.lv 12)])) (.const (.d (.bytes [32])))) (.lv 4)) (.const (.d (.bytes [13,10])))),(.bin .add (.bin .add (.bin .add (.bin .add (.bin .add (.bin .add (.bin .add (.lv 2) (.const (.d (.bytes [32,40,84,65,71,32])))) (.lv 11)) (.lv 14)) (.call (.const (.fn 87)) [(.lv 12)])) (.const (.d (.bytes [32])))) (.lv 5)) (.const (.d (.bytes [13,10]))))]))] []),
 (.aT (.val (.cmp (.lv 0) .eq (.const (.d (.str [86,65,78,73,83,72,69,68]))))) [(.assign (.tup [(.lv 15),(.lv 16)]) (.call (.const (.fn 86)) [(.cv 0),(.tuple [(.tuple [(.tuple [(.tuple [(.const (.d (.int 1))),(.const (.d (.int 3)))]),(.tuple [(.const (.d (.int 5))),(.const (.d (.int 5)))])]),(.const (.d (.str [49,58,51,44,53])))]),(.tuple [(.tuple [(.tuple [(.const (.d (.int 7))),(.const (.d (.int 2)))])]),(.const (.d (.str [55,58,50])))]),(.tuple [(.tuple [(.tuple [(.const (.d (.int 4))),(.const (.d (.int 0)))])]),(.const (.d (.str [52,58,42])))])])])),(.assign (.lv 17) (.aT (.val (.cmp (.call (.const (.fn 85)) [(.cv 0),(.const (.d (.int 2)))]) .eq (.const (.d (.int 0))))) (.const (.d (.str [32,40,69,65,82,76,73,69,82,41,32]))) (.const (.d (.str [32]))))),(.ret (.tuple [(.tuple [(.const (.d (.str [118,97,110,105,115,104,101,100]))),(.lv 15),(.cmp (.lv 17) .ne (.const (.d (.str [32]))))]),(.bin .add (.bin .add (.lv 1) (.call (.const (.fn 87)) [(.bin .add (.lv 17) (.lv 16))])) (.const (.d (.bytes [13,10])))),(.bin .add (.bin .add (.lv 2) (.call (.const (.fn 87)) [(.bin .add (.lv 17) (.lv 16))])) (.const (.d (.bytes [13,10]))))]))] []),
 (.assign (.lv 16) (.aT (.val (.cmp (.lv 0) .eq (.const (.d (.str [84,72,82,69,65,68]))))) (.call (.const (.fn 86)) [(.cv 0),(.tuple [(.const (.d (.str []))),(.const (.d (.str [32,40,50,41,40,51,32,54,32,40,52,32,50,51,41,40,52,52,32,55,41,41])))])]) (.ag (.const (.d (.str []))) .join [(.comp false (.bin .add (.const (.d (.str [32]))) (.lv 1)) (.lv 1) (.ex (.slice (.tuple [(.const (.d (.str [73,68,76,69]))),(.const (.d (.str [116,104,114,101,97,100,61,120]))),(.const (.d (.str [76,73,84,69,82,65,76,43])))]) none (some (.call (.const (.fn 85)) [(.cv 0),(.const (.d (.int 4)))])))) [] 2 0 [])]))),
 (.assign (.lv 6) (.aT (.val (.cmp (.lv 0) .eq (.const (.d (.str [84,72,82,69,65,68]))))) (.tuple [(.const (.d (.str [116,104,114,101,97,100]))),(.call (.const (.fn 87)) [(.slice (.lv 16) (some (.const (.d (.int 1)))) none)])]) (.tuple [(.const (.d (.str [99,97,112,97,98,105,108,105,116,121]))),(.call (.const (.bi .bF)) [(.slice (.ag (.lv 16) .split [(.const (.d (.str [32])))]) (some (.const (.d (.int 1)))) none)])]))),
 (.ret (.tuple [(.lv 6),(.bin .add (.bin .add (.lv 1) (.call (.const (.fn 87)) [(.lv 16)])) (.const (.d (.bytes [13,10])))),(.bin .add (.bin .add (.lv 2) (.call (.const (.fn 87)) [(.lv 16)])) (.const (.d (.bytes [13,10]))))]))]⟩
noncomputable def kK:Fn:=⟨1,[],[(some 0),none,none],[],false,[
 (.assign (.lv 1) (.call (.const (.fn 85)) [(.lv 0),(.const (.d (.int 5)))])),
 (.aT (.val (.cmp (.lv 1) .eq (.const (.d (.int 4))))) [(.assign (.lv 2) (.call (.const (.fn 86)) [(.lv 0),(.const (.d (.tuple [(.str [100,111,110,101]),(.str []),(.str [97,32,123,51,125,32,98]),(.str [42,32,79,75]),(.str [120,93,32,121,32,53])])))])),(.ret (.tuple [(.tuple [(.const (.d (.str [103,111,32,111,110]))),(.lv 2)]),(.bin .add (.bin .add (.const (.d (.bytes [43,32]))) (.call (.const (.fn 87)) [(.lv 2)])) (.const (.d (.bytes [13,10])))),(.bin .add (.bin .add (.const (.d (.bytes [43,32]))) (.call (.const (.fn 87)) [(.lv 2)])) (.const (.d (.bytes [13,10]))))]))] []),
 (.ret (.call (.sub (.tuple [(.const (.fn 94)),(.const (.fn 95)),(.const (.fn 96)),(.const (.fn 97))]) (.lv 1)) [(.lv 0)]))]⟩
noncomputable def vX:Fn:=⟨1,[],[(some 0),none,none,none,none,none,none],[none],false,[
 (.assign (.cv 0) (.call (.const (.fn 84)) [(.lv 0)])),
 (.assign (.lv 1) (.comp false (.call (.const (.fn 98)) [(.cv 0)]) (.lv 1) (.range [(.bin .add (.const (.d (.int 1))) (.call (.const (.fn 85)) [(.cv 0),(.const (.d (.int 9)))]))]) [] 2 0 [0])),
 (.assign (.lv 2) (.comp false (.sub (.lv 1) (.const (.d (.int 0)))) (.lv 1) (.ex (.lv 1)) [] 2 0 [])),
 (.assign (.tup [(.lv 3),(.lv 4)]) (.call (.const (.fn 82)) [(.ag (.const (.d (.bytes []))) .join [(.comp false (.sub (.lv 1) (.const (.d (.int 1)))) (.lv 1) (.ex (.lv 1)) [] 2 0 [])])])),
 (.aT (.bool false [(.val (.cmp (.lv 4) .ne (.const (.d (.bytes []))))),(.val (.cmp (.comp false (.call (.const (.fn 51)) [(.lv 1)]) (.lv 1) (.ex (.lv 3)) [] 2 0 []) .ne (.lv 2)))]) [(.ret (.const (.d (.bool false))))] []),
 (.assign (.lv 5) (.comp false (.call (.const (.fn 63)) [(.lv 1)]) (.lv 1) (.ex (.lv 3)) [] 2 0 [])),
 (.assign (.tup [(.lv 6),(.lv 4)]) (.call (.const (.fn 82)) [(.ag (.const (.d (.bytes []))) .join [(.lv 5)])])),
 (.ret (.gY true [(.cmp (.lv 5) .eq (.comp false (.sub (.lv 1) (.const (.d (.int 2)))) (.lv 1) (.ex (.lv 1)) [] 2 0 [])),(.cmp (.lv 4) .eq (.const (.d (.bytes [])))),(.cmp (.comp false (.call (.const (.fn 51)) [(.lv 1)]) (.lv 1) (.ex (.lv 6)) [] 2 0 []) .eq (.lv 2))]))]⟩
noncomputable def LT:List Ex:=[.ag (.cv 0) (.own 29) [(.const (.fn 18)),(.const (.d (.str [97,32,119,111,114,100,32,105,115,32,109,105,115,115,105,110,103])))],.call (.const (.fn 71)) [.cv 0],.call (.const (.fn 73)) [.cv 0]]
noncomputable def PT:List Fn:=[e_,el,fU,ic,qS,ia,iu,fc,eF,gU,gM,kk,jg,ke,fL,fD,d7,gD,eR,gw,jr,di,hO,oC,n5,nX,mv,nD,qK,jj,nN,nP,iq,kq,cZ,ec,kF,gg,jb,fS,eQ,eZ,gi,bT,cX,dm,b9,dc,ba,ew,jv,gp,dP,gq,fG,jB,eG,dK,ed,dw,ip,cL,cz,fM,fI,fE,jn,j3,r8,jP,ek,fN,dM,ib,fi,iZ,dh,dr,gJ,ir,dq,ej,dR,i_,rh,nE,rK,jX,nR,ku,kz,c_,bu,ml,d6,b_,dj,aY,kK,vX]
theorem nM:PT[0]? =some e_:=rfl
theorem rZ:PT[1]? =some el:=rfl
theorem uH:PT[2]? =some fU:=rfl
theorem sJ:PT[3]? =some ic:=rfl
theorem Fb:PT[4]? =some qS:=rfl
theorem sL:PT[5]? =some ia:=rfl
theorem sP:PT[6]? =some iu:=rfl
theorem tm:PT[7]? =some fc:=rfl
theorem sa:PT[8]? =some eF:=rfl
theorem yA:PT[9]? =some gU:=rfl
theorem xD:PT[10]? =some gM:=rfl
theorem zd:PT[11]? =some kk:=rfl
theorem wH:PT[12]? =some jg:=rfl
theorem zz:PT[13]? =some ke:=rfl
theorem px:PT[14]? =some fL:=rfl
theorem pP:PT[15]? =some fD:=rfl
theorem l4:PT[16]? =some d7:=rfl
theorem sA:PT[17]? =some gD:=rfl
theorem nO:PT[18]? =some eR:=rfl
theorem rJ:PT[19]? =some gw:=rfl
theorem wI:PT[20]? =some jr:=rfl
theorem ky:PT[21]? =some di:=rfl
theorem tD:PT[22]? =some hO:=rfl
theorem Eh:PT[23]? =some oC:=rfl
theorem Ek:PT[24]? =some n5:=rfl
theorem DU:PT[25]? =some nX:=rfl
theorem Aq:PT[26]? =some mv:=rfl
theorem EF:PT[27]? =some nD:=rfl
theorem Hp:PT[28]? =some qK:=rfl
theorem wi:PT[29]? =some jj:=rfl
theorem Ec:PT[30]? =some nN:=rfl
theorem DB:PT[31]? =some nP:=rfl
theorem tv:PT[32]? =some iq:=rfl
theorem xl:PT[33]? =some kq:=rfl
theorem xx:PT[34]? =some cZ:=rfl
theorem wV:PT[35]? =some ec:=rfl
theorem ym:PT[36]? =some kF:=rfl
theorem rX:PT[37]? =some gg:=rfl
theorem uV:PT[38]? =some jb:=rfl
theorem uK:PT[39]? =some fS:=rfl
theorem oa:PT[40]? =some eQ:=rfl
theorem sz:PT[41]? =some eZ:=rfl
theorem r0:PT[42]? =some gi:=rfl
theorem oq:PT[43]? =some bT:=rfl
theorem gK:PT[44]? =some cX:=rfl
theorem iV:PT[45]? =some dm:=rfl
theorem gN:PT[46]? =some b9:=rfl
theorem bW:PT[47]? =some dc:=rfl
theorem pj:PT[48]? =some ba:=rfl
theorem rf:PT[49]? =some ew:=rfl
theorem va:PT[50]? =some jv:=rfl
theorem r5:PT[51]? =some gp:=rfl
theorem pW:PT[52]? =some dP:=rfl
theorem qN:PT[53]? =some gq:=rfl
theorem pG:PT[54]? =some fG:=rfl
theorem uQ:PT[55]? =some jB:=rfl
theorem nu:PT[56]? =some eG:=rfl
theorem pL:PT[57]? =some dK:=rfl
theorem mR:PT[58]? =some ed:=rfl
theorem n7:PT[59]? =some dw:=rfl
theorem tj:PT[60]? =some ip:=rfl
theorem pQ:PT[61]? =some cL:=rfl
theorem l7:PT[62]? =some cz:=rfl
theorem pA:PT[63]? =some fM:=rfl
theorem pg:PT[64]? =some fI:=rfl
theorem pB:PT[65]? =some fE:=rfl
theorem vC:PT[66]? =some jn:=rfl
theorem xQ:PT[67]? =some j3:=rfl
theorem H6:PT[68]? =some r8:=rfl
theorem yH:PT[69]? =some jP:=rfl
theorem vO:PT[70]? =some ek:=rfl
theorem pU:PT[71]? =some fN:=rfl
theorem o_:PT[72]? =some dM:=rfl
theorem sV:PT[73]? =some ib:=rfl
theorem th:PT[74]? =some fi:=rfl
theorem vR:PT[75]? =some iZ:=rfl
theorem qB:PT[76]? =some dh:=rfl
theorem nW:PT[77]? =some dr:=rfl
theorem yv:PT[78]? =some gJ:=rfl
theorem tn:PT[79]? =some ir:=rfl
theorem oo:PT[80]? =some dq:=rfl
theorem sh:PT[81]? =some ej:=rfl
theorem pO:PT[82]? =some dR:=rfl
theorem vQ:PT[83]? =some i_:=rfl
theorem Ik:PT[84]? =some rh:=rfl
theorem DR:PT[85]? =some nE:=rfl
theorem Hj:PT[86]? =some rK:=rfl
theorem xT:PT[87]? =some jX:=rfl
theorem DQ:PT[88]? =some nR:=rfl
theorem yc:PT[89]? =some ku:=rfl
theorem zH:PT[90]? =some kz:=rfl
theorem x_:PT[91]? =some c_:=rfl
theorem zW:PT[92]? =some bu:=rfl
theorem Ar:PT[93]? =some ml:=rfl
theorem Bq:PT[94]? =some d6:=rfl
theorem tB:PT[95]? =some b_:=rfl
theorem HH:PT[96]? =some dj:=rfl
theorem AE:PT[97]? =some aY:=rfl
theorem xN:PT[98]? =some kK:=rfl
theorem Mk:PT[99]? =some vX:=rfl
section
noncomputable def held:List String:=["bytearray.__contains__","bytearray.__mod__","bytearray.__rmod__","_struct.pack_into.held","bytearray.find.held"]++Builtin.Bytes.decodersThatHold
noncomputable def j5:Code->Bool
 |.builtin id _=>held.contains id
 |_=>false
def N6(Γ:PySem.Ctx):Prop:=j5 Γ.code=false/\∀x∈Γ.below,j5 x.1=false
def wA{α:Type}(M:Model)(A:Around)(t:Sem α)(Q:α->Shared->Prop)(s:Shared):Prop:=
 ∀Γ p,Γ.In A->N6 Γ->wp M Γ t (fun a _ s'=>Q a s') (fun _ _ _=>False) p s
def Rz(R:Flow->Shared->Prop)(r:Result)(s:Shared):Prop:=∃f,r=.ok f/\R f s
def cA(M:Model)(A:Around)(c:Code)(R:Flow->Shared->Prop)(s:Shared):Prop:=
 j5 c=false/\∀Γ p,Γ.code=c->Γ.Below A->N6 Γ->wpCode M Γ (Rz R) p s
abbrev xd:Value->Shared->Prop:=fun _ _=>False
section
variable{α β:Type}{M:Model}{A:Around}{s:Shared}
theorem ij{t:Sem α}{Q:α->Shared->Prop}(h:wpAny M A t Q xd s):wA M A t Q s:=fun Γ p hΓ _=>h Γ p hΓ
theorem aH{a:α}{Q:α->Shared->Prop}(h:Q a s):wA M A (pure a) Q s:=fun _ _ _ _=>h
theorem aG{t:Sem α}{Q Q':α->Shared->Prop}(h:wA M A t Q s)(k:∀a s,Q a s->Q' a s):wA M A t Q' s:=
 fun Γ p hΓ hc=>Sem.wp_mono M Γ t (fun a _=>k a) (fun _ _ _=>id) p s (h Γ p hΓ hc)
theorem aj{m:Sem α}{f:α->Sem β}{Q:β->Shared->Prop}(h:wA M A m (fun a=>wA M A (f a) Q) s):wA M A (m>>=f) Q s:=
 fun Γ p hΓ hc=>(Sem.wp_bind' ..).mpr (Sem.wp_mono M Γ m (fun _ p' _ h'=>h' Γ p' hΓ hc) (fun _ _ _=>id) p s (h Γ p hΓ hc))
theorem bw{m:Sem α}{f:α->Sem β}{Q:β->Shared->Prop}(h:wpAny M A m (fun a=>wA M A (f a) Q) xd s):wA M A (m>>=f) Q s:=aj (ij h)
theorem d0{m:Sem α}{k:Value->Sem Unit}{Q:α->Shared->Prop}(h:wA M A m Q s):wA M A (m.onRaise k) Q s:=
 fun Γ p hΓ hc=>(Sem.wp_onRaise ..).mpr (Sem.wp_mono M Γ m (fun _ _ _=>id) (fun _ _ _=>TO) p s (h Γ p hΓ hc))
theorem bj{vs:List Value}{m:Sem α}{Q:α->Shared->Prop}(h:wA M A m Q s):wA M A (holding vs m) Q s:=fun Γ p hΓ hc=>(Sem.wp_holding ..).mpr (h Γ p hΓ hc)
theorem zM{vs:List Value}{m:Sem Value}{Q:Value->Shared->Prop}(h:wA M A m Q s):wA M A (operate vs m) Q s:=fun Γ p hΓ hc=>(Sem.wp_operate ..).mpr (h Γ p hΓ hc)
theorem sy{vs ks:List Value}{Q:Unit->Shared->Prop}(h:Q () s):wA M A (release vs ks) Q s:=fun Γ p hΓ hc=>(Sem.wp_release ..).mpr h
theorem AM{m:Sem α}{Q:Except Value α->Shared->Prop}(h:wA M A m (fun a=>Q (.ok a)) s):wA M A m.attempt Q s:=
 fun Γ p hΓ hc=>(Sem.wp_attempt ..).mpr (Sem.wp_mono M Γ m (fun _ _ _=>id) (fun _ _ _=>TO) p s (h Γ p hΓ hc))
theorem IL{vs:List Value}{m:Sem α}{Q:α->Shared->Prop}(h:wA M A m Q s):wA M A (Sem.keep vs m) Q s:=fun Γ p hΓ hc=>(Sem.wp_keep ..).mpr (h Γ p hΓ hc)
theorem eM{pos:Pos}{Q:Unit->Shared->Prop}(h:Q () s):wA M A (standAt pos) Q s:=fun _ _ _ _=>h
theorem rR{Q:Unit->Shared->Prop}(h:Q () s):wA M A point Q s:=fun _ _ _ _=>h
theorem qq{x:String}{Q:Unit->Shared->Prop}(h:Q () s):wA M A (rule x) Q s:=fun _ _ _ _=>h
theorem uh{t:Sem α}{a:α}{Q:α->Shared->Prop}(e:t=pure a)(h:Q a s):wA M A t Q s:=e▸aH h
theorem fu{env:Env}{x:Str}{v:Value}{Q:Unit->Shared->Prop}(h:wA M A (storeName env x v) Q s):wA M A (bindName env x v) Q s:=
 fun Γ p hΓ hc=>(Sem.wp_bindName ..).mpr (h Γ p hΓ hc)
theorem N6.enter{Γ:PySem.Ctx}(h:N6 Γ)(c:Code)(hd:Option Value)(p:Pos)(hc:j5 c=false):N6 (Γ.enter c hd p):=
 ⟨hc,fun x hx=>(List.mem_cons.mp hx).elim (fun e=>e▸h.1) (h.2 x)⟩
theorem qn{c:Code}{R R':Flow->Shared->Prop}(h:cA M A c R s)(k:∀f s,R f s->R' f s):cA M A c R' s:=
 ⟨h.1,fun Γ p hc hΓ hl=>wpCode_mono (fun r s ⟨f,e,q⟩=>⟨f,e,k f s q⟩) (h.2 Γ p hc hΓ hl)⟩
theorem qe{f:Value}{pos:List Value}{kw:List (Str×Value)}{Q:Value->Shared->Prop}(hc:cA M A (.call f ⟨pos,kw⟩) (fun r s'=>∃v,r=.ret v/\Q v s') s):wA M A (call f pos kw) Q s:=
 fun Γ p hΓ hl=>(Sem.wp_runValue ..).mpr (wpCode_mono (fun r s' ⟨f,e,v,e2,q⟩=>e▸e2▸q) (hc.2 _ p rfl (hΓ.enter _ none p nofun) (hl.enter _ none p hc.1)))
theorem Hd{c:Code}{h:Option Value}{Q:Flow->Shared->Prop}(hc:cA M (A.mark h) c Q s)(hnb:h≠some byPass:=by nofun):wA M A (run c h) Q s:=
 fun Γ p hΓ hl=>(Sem.wp_run ..).mpr (wpCode_mono (fun r s' ⟨f,e,q⟩=>e▸q) (hc.2 _ p rfl (hΓ.enter c h p hnb) (hl.enter c h p hc.1)))
theorem ux{env:Env}{c:Code}{h:Option Value}{Q:Flow->Shared->Prop}(hc:cA M (A.mark h) c Q s)(hnb:h≠some byPass:=by nofun):wA M A (runOwn c env h) Q s:=d0 (Hd hc hnb)
def Rt(M:Model)(A:Around)(R:Flow->Shared->Prop)(fin:Fin)(s:Shared):Prop:=match fin with
 |.done f=>R f s
 |.again c=>c.quiet=true/\cA M A c R s
theorem fZ{c:Code}{R:Flow->Shared->Prop}(h:wA M (A.under c) (M.den c) (Rt M A R) s)(hd:j5 c=false:=by rfl):cA M A c R s:=by
 refine⟨hd,fun Γ p hc hΓ hl=>(wpCode_iff_wp ..).mpr ?_⟩
 rw[hc]
 refine Sem.wp_mono M Γ _ (fun fin p' s' h'=>?_) (fun _ _ _=>TO) p s (h Γ p (hc▸hΓ.in) hl)
 cases fin with
 |done f=>exact⟨f,rfl,h'⟩
 |again c'=>exact⟨h'.1,h'.2.2 (Γ.goto c') p' rfl (hΓ.goto c') ⟨h'.2.1,hl.2⟩⟩
theorem vP{v:Value}{Q:Bool->Shared->Prop}(h:Q false s):wA M A (Builtin.Bytes.exported v) Q s:=fun Γ p hΓ hc=>by
 show Q (List.any ((Γ.code,p)::Γ.below) _) s
 refine(congrArg (fun b=>Q b s) (List.any_eq_false.mpr fun x hx=>?_)).mpr h
 have h1:j5 x.1=false:=(List.mem_cons.mp hx).elim (fun e=>e▸hc.1) (hc.2 x)
 obtain⟨cd,q⟩:=x
 cases cd with
 |builtin id x=>
  obtain⟨pos,kw⟩:=x
  have n (t:String) (ht:held.contains t=true):¬id=t:=fun e=>Bool.noConfusion ((e▸ht).symm.trans h1)
  delta Builtin.Bytes.exported.match_1
  refine fun e=>Bool.false_ne_true (Eq.symm (e.symm.trans ((dif_neg (n "bytearray.__contains__" (by decide+kernel))).trans ((dif_neg (n "bytearray.__mod__" (by decide+kernel))).trans ((dif_neg (n "bytearray.__rmod__" (by decide+kernel))).trans
   ((dif_neg (n "_struct.pack_into.held" (by decide+kernel))).trans ((dif_neg (n "bytearray.find.held" (by decide+kernel))).trans ?_)))))))
  cases pos with
  |nil=>rfl
  |cons v' r=>
   have n6:Builtin.Bytes.decodersThatHold.contains id=false:=Bool.eq_false_iff.mpr fun e=>Bool.noConfusion (h1.symm.trans (List.contains_iff_mem.mpr (List.mem_append_right _ (List.contains_iff_mem.mp e))))
   exact(congrArg _ n6).trans (Bool.and_false _)
 |_=>exact Bool.false_ne_true
end
end
section
variable{α:Type}{prog:Program}{w:World}{M:Model}{A:Around}{s:Shared}{R:Flow->Shared->Prop}
theorem A1{c:Prop}[Decidable c]{a b:Sem α}{Q:α->Shared->Prop}(h1:wA M A a Q s)(h2:wA M A b Q s):wA M A (if c then a else b) Q s:=iteInduction (motive:=fun t=>wA M A t Q s) (fun _=>h1) fun _=>h2
theorem yl{a:Addr}{args:Args}{o:Obj}{fd:FuncData}{cd:Env->Code}(hroom:A.depth<recursionLimit)
  (ho:s.heap.get? a=some o) (hd:o.data=.func fd) (hco:fd.scope.isCoroutine=false) (hge:fd.scope.isGenerator=false) (hb:∀env,(match fd.body with|.stmts b=>Code.func b env|.expr e=>.expr e env)=cd env) (hq:∀env,(cd env).quiet=true) (hcd:s.heap.CodeRec fd.code fd.qualname)
  (h:wpAny (model prog w) A.in1 (bindArgs fd args) (fun binds s₁=>
   wA (model prog w) A.in1 (newFunctionEnv fd.scope fd.globals fd.closure binds (fd.qualname++".<locals>.") (some a) fd.code none fd.builtins)
    (fun env s₂=>s₂.heap.NoLimit/\cA (model prog w) A (cd env) R s₂) s₁) xd s):
  cA (model prog w) A (.call (.ref a) args) R s:=by
 obtain⟨c,oc,vs,tq,hc,hoc,hdc,hq'⟩:=hcd
 obtain⟨x1,x2,x3,x4⟩:=o
 cases hd
 refine fZ (show wA _ A.in1 (callAny (.ref a) args) _ s from bw (wpAny_load ho ?_))
 show wA _ A.in1 (callFunction a fd args) _ s
 unfold callFunction
 rw[hc] at h⊢
 refine bw (m:=field (.ref c) 1) (wpAny_field hoc hdc hq' (aj (aH ?_)))
 refine bw (wpAny_mono h (fun binds s₁ h₁=>aj (aG h₁ fun env s₂ h₂=>bw (wpAny_enterFrame h₂.1 hroom ?_))) fun _ _=>id)
 rw[hco,hge]
 show wA _ _ (again (match fd.body with|.stmts b=>Code.func b env|.expr e=>.expr e env)) _ s₂
 rw[hb]
 exact aH ⟨hq env,h₂.2⟩
theorem Jw{body:List Stmt}{env:Env}(h:wA (model prog w) (A.deeper env) (execs body env) (fun f=>R (.ret (match f with|.ret v=>v|_=>.none))) s):cA (model prog w) A (.func body env) R s:=by
 refine fZ (show wA _ (A.deeper env) (do point;match<-(execs body env).onRaise (leaving env)with|.ret v=>ret v|_=>ret .none) _ s from ?_)
 refine aj (rR (aj (d0 (aG h fun f s' q=>?_))))
 cases f<;>exact aH q
theorem Kd{e:Expr}{env:Env}(h:wA (model prog w) (A.deeper env) (eval e env) (fun v=>R (.ret v)) s):cA (model prog w) A (.expr e env) R s:=
 fZ (show wA _ (A.deeper env) (do point;ret (<-(eval e env).onRaise (leaving env))) _ s from aj (rR (aj (d0 (aG h fun v s' q=>aH q)))))
theorem IV{f:Value}{x:Sem Value}{rest:List (Bool×Sem Value)}{Q:Args->Shared->Prop}(h:wA M A (spliced ((false,x)::rest)) (fun vs=>Q ⟨vs,[]⟩) s):wA M A (evalArgs f true ((false,x)::rest) []) Q s:=
 show wA M A (spliced ((false,x)::rest)>>=_) Q s from aj (aG h fun _ _ q=>bj (aj (aH (aj (aH (aH q))))))
theorem xn{t:Sem Value}{Q:Value->Shared->Prop}(ht:wA M A t Q s):wA M A (t>>=fun r=>holding [r] point>>=fun _=>pure r) Q s:=
 aj (aG ht fun r s₂ hr=>aj (bj (rR (aH hr))))
theorem xt{P:Heap->Prop}{f:Value}{first:List Value}{pos:Pos}{Q:Value->Shared->Prop}{args:List (Bool×Sem Value)}(hplain:args.any (·.1)=false)
  (hk:∀h,P h->∃k,(k=Keeper.frame\/k=Keeper.machine\/k=Keeper.boundFrame)/\Looks M h (keeperOf f) k)
  (h:wA M A (evalArgs f true args []) (fun a s₁=>P s₁.heap/\wA M A (call f (first++a.pos) a.kw) Q s₁) s):wA M A (callWith pos f first args []) Q s:=by
 refine aj (bj (aG h fun a s₁ h₁=>aj (eM ?_)))
 obtain⟨k,hk',L⟩:=hk _ h₁.1
 have mk (m:Value):wA M A (callMarked m f (first++a.pos) a.kw) Q s₁:=IL h₁.2
 rw[hplain]
 refine bw (L.here ?_)
 rcases hk' with rfl|rfl|rfl
 ·exact A1 (xn h₁.2) (xn (mk _))
 ·exact xn h₁.2
 ·exact A1 (xn h₁.2) (xn (mk _))
theorem vh{elt target iter:Expr}{ifs:List Expr}{scope:Scope}{pos:Pos}{it acc:Value}{env:Env}
  (h0:cA (model prog w) A (.compLoop (.ListComp elt [⟨target,iter,ifs,0⟩] scope pos) 0 it acc env) R s)
  (h:wpAny (model prog w) A (pyIter it) (fun it' s'=>it'=it/\s'=s) xd s):cA (model prog w) A (.compStart (.ListComp elt [⟨target,iter,ifs,0⟩] scope pos) 0 it acc env) R s:=by
 refine fZ (show wA _ A ((compStart (.ListComp elt [⟨target,iter,ifs,0⟩] scope pos) 0 it acc env).onRaise (fun x=>do noteFrame x env;standAt theWindowsPlace)) _ s from d0 (bw (wpAny_askSetting ?_)))
 have fin:Rt (model prog w) A R (.again (.compLoop (.ListComp elt [⟨target,iter,ifs,0⟩] scope pos) 0 it acc env)) s:=⟨rfl,h0⟩
 split
 ·exact aH fin
 ·exact aj (qq (aj (eM (bw (wpAny_mono h (fun it' s' q=>q.1.symm▸q.2.symm▸aH fin) fun _ _=>id)))))
end
section
noncomputable def only(h:Heap)(p:Addr->Prop):Heap:=
 ⟨Array.ofFn (n:=h.objs.size) fun i=>@ite _ (p i.val) (Classical.propDecidable _) h.objs[i] ⟨.none,none,.freed,#[]⟩,h.life⟩
theorem eJ{h:Heap}{p:Addr->Prop}{a:Addr}{o:Obj}:(only h p).get? a=some o↔p a/\h.get? a=some o:=by
 rw[Heap.get?_some_iff,Heap.get?_some_iff]
 unfold only
 rw[Array.getElem?_ofFn]
 by_cases ha:a<h.objs.size
 ·rw[dif_pos ha,Array.getElem?_eq_getElem ha]
  by_cases hp:p a
  ·rw[if_pos hp]
   exact⟨fun e=>⟨hp,e⟩,fun e=>e.2⟩
  ·rw[if_neg hp]
   exact⟨fun e=>absurd e.2 (by cases e.1;exact Bool.noConfusion),fun e=>absurd e.1 hp⟩
 ·rw[dif_neg ha,Array.getElem?_eq_none (Nat.le_of_not_lt ha)]
  exact⟨fun e=>(nomatch e.1),fun e=>(nomatch e.2.1)⟩
def Le(h h':Heap):Prop:=∀b o,h.get? b=some o->h'.get? b=some o
theorem Le.rfl{h:Heap}:Le h h:=fun _ _=>id
theorem Le.trans{h h' h'':Heap}(x:Le h h')(y:Le h' h''):Le h h'':=fun b o e=>y b o (x b o e)
theorem Le.push{h:Heap}(o:Obj):Le h (h.push o):=fun b o' e=>Heap.get?_push_of_some o e
def Z{α β:Type}(R:α->β->Prop):List α->List β->Prop
 |[],m=>m=[]
 |a::l,m=>∃b bs,m=b::bs/\R a b/\Z R l bs
section
variable{α β:Type}{R S:α->β->Prop}{l l':List α}{m m':List β}
theorem Z.len:∀{l:List α} {m:List β},Z R l m->l.length=m.length
 |[],_,h=>h▸rfl
 |_::_,_,h=>by obtain⟨b,bs,rfl,_,h⟩:=h;exact congrArg Nat.succ h.len
theorem Z.imp(k:∀a∈l,∀b,R a b->S a b)(h:Z R l m):Z S l m:=by
 induction l generalizing m with
 |nil=>exact h
 |cons a l ih=>obtain⟨b,bs,e,h1,h2⟩:=h;exact⟨b,bs,e,k a (.head _) b h1,ih (fun a ha=>k a (.tail _ ha)) h2⟩
theorem Z.get(h:Z R l m){i:Nat}{a:α}(e:l[i]? =some a):∃b,m[i]? =some b/\R a b:=by
 induction l generalizing m i with
 |nil=>cases e
 |cons x l ih=>
  obtain⟨b,bs,rfl,h1,h2⟩:=h
  cases i with
  |zero=>cases e;exact⟨b,rfl,h1⟩
  |succ i=>exact ih h2 e
theorem Z.append(h:Z R l m)(h':Z R l' m'):Z R (l++l') (m++m'):=by
 induction l generalizing m with
 |nil=>cases h;exact h'
 |cons x l ih=>obtain⟨b,bs,rfl,h1,h2⟩:=h;exact⟨b,_,rfl,h1,ih h2⟩
theorem Z.one{a:α}{b:β}(h:R a b):Z R [a] [b]:=⟨b,[],rfl,h,rfl⟩
theorem Z.rev(h:Z R l m):Z R l.reverse m.reverse:=by
 induction l generalizing m with
 |nil=>cases h;exact rfl
 |cons x l ih=>obtain⟨b,bs,rfl,h1,h2⟩:=h;rw[List.reverse_cons,List.reverse_cons];exact(ih h2).append (.one h1)
theorem Z.take(n:Nat)(h:Z R l m):Z R (l.take n) (m.take n):=by
 induction l generalizing m n with
 |nil=>cases h;rw[List.take_nil,List.take_nil];exact rfl
 |cons x l ih=>obtain⟨b,bs,rfl,h1,h2⟩:=h;cases n with
  |zero=>exact rfl
  |succ n=>exact⟨b,_,rfl,h1,ih n h2⟩
theorem Z.drop(n:Nat)(h:Z R l m):Z R (l.drop n) (m.drop n):=by
 induction l generalizing m n with
 |nil=>cases h;rw[List.drop_nil,List.drop_nil];exact rfl
 |cons x l ih=>cases n with
  |zero=>exact h
  |succ n=>obtain⟨b,bs,rfl,h1,h2⟩:=h;exact ih n h2
theorem Z.set{a:α}{b:β}(hr:R a b)(h:Z R l m)(n:Nat):Z R (l.set n a) (m.set n b):=by
 induction l generalizing m n with
 |nil=>cases h;exact rfl
 |cons x l ih=>obtain⟨b',bs,rfl,h1,h2⟩:=h;cases n with
  |zero=>exact⟨b,bs,rfl,hr,h2⟩
  |succ n=>exact⟨b',_,rfl,h1,ih h2 n⟩
theorem Z.of(hl:l.length=m.length)(k:∀(i:Nat) a b,l[i]? =some a->m[i]? =some b->R a b):Z R l m:=by
 induction l generalizing m with
 |nil=>exact List.length_eq_zero_iff.mp hl.symm
 |cons x l ih=>cases m with
  |nil=>cases hl
  |cons b m=>exact⟨b,m,rfl,k 0 _ _ rfl rfl,ih (Nat.succ.inj hl) fun i=>k (i+1)⟩
theorem Z.map{γ:Type}{f:γ->α}{l:List γ}:Z R (l.map f) m↔Z (fun c=>R (f c)) l m:=by
 induction l generalizing m with
 |nil=>exact .rfl
 |cons x l ih=>exact⟨fun⟨b,bs,e,h1,h2⟩=>⟨b,bs,e,h1,ih.mp h2⟩,fun⟨b,bs,e,h1,h2⟩=>⟨b,bs,e,h1,ih.mpr h2⟩⟩
end
end
section
set_option backward.match.sparseCases false
set_option genSizeOf false
set_option genInjectivity false
structure Ct where
 locs:List Str
 cells:List Str
 ro:List Str
 code:Value
structure Gt where
 name:Str->V->Bool
 G5:Str->Mt->Bool
 lam:Value->Pos->Bool
 IH:Nat->Ct->Expr->Bool
noncomputable def pick(k:NameKind)(sc:Scope):List Str:=(sc.names.filter fun x=>x.2==k).map (·.1)
noncomputable def ji(sc:Scope)(code:Value):Ct:=⟨pick .local sc,pick .cell sc++pick .free sc,pick .globalImplicit sc,code⟩
noncomputable def tc(sc:Scope):Bool:=
 (sc.kind==.function)&& !sc.isGenerator&& !sc.isCoroutine&&decide (sc.names.map (·.1)).Nodup&& !(sc.names.any fun x=>x.1==Str.ofString "__debug__"||x.1==Str.ofString "__classdict__")
section
variable{α β γ δ:Type}
noncomputable def n1(a:α):Bool:=false
noncomputable def n2(a:α)(b:β):Bool:=false
noncomputable def n3(a:α)(b:β)(d:γ):Bool:=false
noncomputable def n4(a:α)(b:β)(d:γ)(g:δ):Bool:=false
theorem nf{R:Prop}(h:false=true):R:=(Bool.false_ne_true h).elim
noncomputable def pk(k0:Const->Bool)(k1:Str->Pos->Bool)(k2:Expr->Operator->Expr->Bool)(k3:UnaryOp->Expr->Bool)(k4:BoolOp->List Expr->Bool)(k5:Expr->List CmpOp->List Expr->Bool)(k6:Expr->Expr->Expr->Bool)(k7:List Expr->Bool)(k8:List Expr->Pos->Bool)(k9:Expr->List Comprehension->Scope->Pos->Bool)(k10:Expr->Str->Pos->Bool)(k11:Expr->Expr->Bool)(k12:Option Expr->Option Expr->Option Expr->Bool)(k13:Expr->List Expr->List Keyword->Pos->Bool)(k14:Arguments->Expr->Scope->Pos->Bool)(e:Expr):Bool:=match e with
 |.Constant c n p=>k0 c
 |.Name x p=>k1 x p
 |.BinOp l o r p=>k2 l o r
 |.UnaryOp o x p=>k3 o x
 |.BoolOp o l p=>k4 o l
 |.Compare l o r p=>k5 l o r
 |.IfExp a b d p=>k6 a b d
 |.Tuple l n p=>k7 l
 |.List l p=>k8 l p
 |.ListComp a g s p=>k9 a g s p
 |.Attribute v a p=>k10 v a p
 |.Subscript v i p=>k11 v i
 |.Slice a b d p=>k12 a b d
 |.Call f l ks p=>k13 f l ks p
 |.Lambda a b s p=>k14 a b s p
 |_=>false
variable{P:Expr->Prop}{e:Expr}
theorem gf{k0:Const->Bool}{k1:Str->Pos->Bool}{k2:Expr->Operator->Expr->Bool}{k3:UnaryOp->Expr->Bool}{k4:BoolOp->List Expr->Bool}{k5:Expr->List CmpOp->List Expr->Bool}{k6:Expr->Expr->Expr->Bool}{k7:List Expr->Bool}{k8:List Expr->Pos->Bool}{k9:Expr->List Comprehension->Scope->Pos->Bool}{k10:Expr->Str->Pos->Bool}{k11:Expr->Expr->Bool}{k12:Option Expr->Option Expr->Option Expr->Bool}{k13:Expr->List Expr->List Keyword->Pos->Bool}{k14:Arguments->Expr->Scope->Pos->Bool}(f0:∀c n p,k0 c=true->P (.Constant c n p))(f1:∀x p,k1 x p=true->P (.Name x p))(f2:∀l o r p,k2 l o r=true->P (.BinOp l o r p))(f3:∀o x p,k3 o x=true->P (.UnaryOp o x p))(f4:∀o l p,k4 o l=true->P (.BoolOp o l p))(f5:∀l o r p,k5 l o r=true->P (.Compare l o r p))(f6:∀a b d p,k6 a b d=true->P (.IfExp a b d p))(f7:∀l n p,k7 l=true->P (.Tuple l n p))(f8:∀l p,k8 l p=true->P (.List l p))(f9:∀a g s p,k9 a g s p=true->P (.ListComp a g s p))(f10:∀v a p,k10 v a p=true->P (.Attribute v a p))(f11:∀v i p,k11 v i=true->P (.Subscript v i p))(f12:∀a b d p,k12 a b d=true->P (.Slice a b d p))(f13:∀f l ks p,k13 f l ks p=true->P (.Call f l ks p))(f14:∀a b s p,k14 a b s p=true->P (.Lambda a b s p)):pk k0 k1 k2 k3 k4 k5 k6 k7 k8 k9 k10 k11 k12 k13 k14 e=true->P e:=by
 cases e with
 |Constant c n p=>exact f0 c n p
 |Name x p=>exact f1 x p
 |BinOp l o r p=>exact f2 l o r p
 |UnaryOp o x p=>exact f3 o x p
 |BoolOp o l p=>exact f4 o l p
 |Compare l o r p=>exact f5 l o r p
 |IfExp a b d p=>exact f6 a b d p
 |Tuple l n p=>exact f7 l n p
 |List l p=>exact f8 l p
 |ListComp a g s p=>exact f9 a g s p
 |Attribute v a p=>exact f10 v a p
 |Subscript v i p=>exact f11 v i p
 |Slice a b d p=>exact f12 a b d p
 |Call f l ks p=>exact f13 f l ks p
 |Lambda a b s p=>exact f14 a b s p
 |_=>exact nf
noncomputable def Ag(e:Expr)(k:Const->Bool):Bool:=pk k n2 n3 n2 n2 n3 n3 n1 n2 n4 n3 n2 n3 n4 n4 e
@[elab_as_elim]theorem tU{k:Const->Bool}{P:Expr->Prop}(e:Expr)(f:∀c n p,k c=true->P (.Constant c n p))(h:Ag e k=true):P e:=gf (P:=P) f (fun a b=>nf) (fun a b d g=>nf) (fun a b d=>nf) (fun a b d=>nf) (fun a b d g=>nf) (fun a b d g=>nf) (fun a b d=>nf) (fun a b=>nf) (fun a b d g=>nf) (fun a b d=>nf) (fun a b d=>nf) (fun a b d g=>nf) (fun a b d g=>nf) (fun a b d g=>nf) h
noncomputable def jW(e:Expr)(k:Str->Pos->Bool):Bool:=pk n1 k n3 n2 n2 n3 n3 n1 n2 n4 n3 n2 n3 n4 n4 e
@[elab_as_elim]theorem dH{k:Str->Pos->Bool}{P:Expr->Prop}(e:Expr)(f:∀x p,k x p=true->P (.Name x p))(h:jW e k=true):P e:=gf (P:=P) (fun a b d=>nf) f (fun a b d g=>nf) (fun a b d=>nf) (fun a b d=>nf) (fun a b d g=>nf) (fun a b d g=>nf) (fun a b d=>nf) (fun a b=>nf) (fun a b d g=>nf) (fun a b d=>nf) (fun a b d=>nf) (fun a b d g=>nf) (fun a b d g=>nf) (fun a b d g=>nf) h
noncomputable def O5(e:Expr)(k:Expr->Operator->Expr->Bool):Bool:=pk n1 n2 k n2 n2 n3 n3 n1 n2 n4 n3 n2 n3 n4 n4 e
@[elab_as_elim]theorem Lc{k:Expr->Operator->Expr->Bool}{P:Expr->Prop}(e:Expr)(f:∀l o r p,k l o r=true->P (.BinOp l o r p))(h:O5 e k=true):P e:=gf (P:=P) (fun a b d=>nf) (fun a b=>nf) f (fun a b d=>nf) (fun a b d=>nf) (fun a b d g=>nf) (fun a b d g=>nf) (fun a b d=>nf) (fun a b=>nf) (fun a b d g=>nf) (fun a b d=>nf) (fun a b d=>nf) (fun a b d g=>nf) (fun a b d g=>nf) (fun a b d g=>nf) h
noncomputable def P6(e:Expr)(k:UnaryOp->Expr->Bool):Bool:=pk n1 n2 n3 k n2 n3 n3 n1 n2 n4 n3 n2 n3 n4 n4 e
@[elab_as_elim]theorem Bg{k:UnaryOp->Expr->Bool}{P:Expr->Prop}(e:Expr)(f:∀o x p,k o x=true->P (.UnaryOp o x p))(h:P6 e k=true):P e:=gf (P:=P) (fun a b d=>nf) (fun a b=>nf) (fun a b d g=>nf) f (fun a b d=>nf) (fun a b d g=>nf) (fun a b d g=>nf) (fun a b d=>nf) (fun a b=>nf) (fun a b d g=>nf) (fun a b d=>nf) (fun a b d=>nf) (fun a b d g=>nf) (fun a b d g=>nf) (fun a b d g=>nf) h
noncomputable def GV(e:Expr)(k:BoolOp->List Expr->Bool):Bool:=pk n1 n2 n3 n2 k n3 n3 n1 n2 n4 n3 n2 n3 n4 n4 e
@[elab_as_elim]theorem yr{k:BoolOp->List Expr->Bool}{P:Expr->Prop}(e:Expr)(f:∀o l p,k o l=true->P (.BoolOp o l p))(h:GV e k=true):P e:=gf (P:=P) (fun a b d=>nf) (fun a b=>nf) (fun a b d g=>nf) (fun a b d=>nf) f (fun a b d g=>nf) (fun a b d g=>nf) (fun a b d=>nf) (fun a b=>nf) (fun a b d g=>nf) (fun a b d=>nf) (fun a b d=>nf) (fun a b d g=>nf) (fun a b d g=>nf) (fun a b d g=>nf) h
noncomputable def Iv(e:Expr)(k:Expr->List CmpOp->List Expr->Bool):Bool:=pk n1 n2 n3 n2 n2 k n3 n1 n2 n4 n3 n2 n3 n4 n4 e
@[elab_as_elim]theorem qc{k:Expr->List CmpOp->List Expr->Bool}{P:Expr->Prop}(e:Expr)(f:∀l o r p,k l o r=true->P (.Compare l o r p))(h:Iv e k=true):P e:=gf (P:=P) (fun a b d=>nf) (fun a b=>nf) (fun a b d g=>nf) (fun a b d=>nf) (fun a b d=>nf) f (fun a b d g=>nf) (fun a b d=>nf) (fun a b=>nf) (fun a b d g=>nf) (fun a b d=>nf) (fun a b d=>nf) (fun a b d g=>nf) (fun a b d g=>nf) (fun a b d g=>nf) h
noncomputable def Sk(e:Expr)(k:Expr->Expr->Expr->Bool):Bool:=pk n1 n2 n3 n2 n2 n3 k n1 n2 n4 n3 n2 n3 n4 n4 e
@[elab_as_elim]theorem MG{k:Expr->Expr->Expr->Bool}{P:Expr->Prop}(e:Expr)(f:∀a b d p,k a b d=true->P (.IfExp a b d p))(h:Sk e k=true):P e:=gf (P:=P) (fun a b d=>nf) (fun a b=>nf) (fun a b d g=>nf) (fun a b d=>nf) (fun a b d=>nf) (fun a b d g=>nf) f (fun a b d=>nf) (fun a b=>nf) (fun a b d g=>nf) (fun a b d=>nf) (fun a b d=>nf) (fun a b d g=>nf) (fun a b d g=>nf) (fun a b d g=>nf) h
noncomputable def tE(e:Expr)(k:List Expr->Bool):Bool:=pk n1 n2 n3 n2 n2 n3 n3 k n2 n4 n3 n2 n3 n4 n4 e
@[elab_as_elim]theorem je{k:List Expr->Bool}{P:Expr->Prop}(e:Expr)(f:∀l n p,k l=true->P (.Tuple l n p))(h:tE e k=true):P e:=gf (P:=P) (fun a b d=>nf) (fun a b=>nf) (fun a b d g=>nf) (fun a b d=>nf) (fun a b d=>nf) (fun a b d g=>nf) (fun a b d g=>nf) f (fun a b=>nf) (fun a b d g=>nf) (fun a b d=>nf) (fun a b d=>nf) (fun a b d g=>nf) (fun a b d g=>nf) (fun a b d g=>nf) h
noncomputable def Lk(e:Expr)(k:List Expr->Pos->Bool):Bool:=pk n1 n2 n3 n2 n2 n3 n3 n1 k n4 n3 n2 n3 n4 n4 e
@[elab_as_elim]theorem GL{k:List Expr->Pos->Bool}{P:Expr->Prop}(e:Expr)(f:∀l p,k l p=true->P (.List l p))(h:Lk e k=true):P e:=gf (P:=P) (fun a b d=>nf) (fun a b=>nf) (fun a b d g=>nf) (fun a b d=>nf) (fun a b d=>nf) (fun a b d g=>nf) (fun a b d g=>nf) (fun a b d=>nf) f (fun a b d g=>nf) (fun a b d=>nf) (fun a b d=>nf) (fun a b d g=>nf) (fun a b d g=>nf) (fun a b d g=>nf) h
noncomputable def BX(e:Expr)(k:Expr->List Comprehension->Scope->Pos->Bool):Bool:=pk n1 n2 n3 n2 n2 n3 n3 n1 n2 k n3 n2 n3 n4 n4 e
@[elab_as_elim]theorem qw{k:Expr->List Comprehension->Scope->Pos->Bool}{P:Expr->Prop}(e:Expr)(f:∀a g s p,k a g s p=true->P (.ListComp a g s p))(h:BX e k=true):P e:=gf (P:=P) (fun a b d=>nf) (fun a b=>nf) (fun a b d g=>nf) (fun a b d=>nf) (fun a b d=>nf) (fun a b d g=>nf) (fun a b d g=>nf) (fun a b d=>nf) (fun a b=>nf) f (fun a b d=>nf) (fun a b d=>nf) (fun a b d g=>nf) (fun a b d g=>nf) (fun a b d g=>nf) h
noncomputable def tO(e:Expr)(k:Expr->Str->Pos->Bool):Bool:=pk n1 n2 n3 n2 n2 n3 n3 n1 n2 n4 k n2 n3 n4 n4 e
@[elab_as_elim]theorem rP{k:Expr->Str->Pos->Bool}{P:Expr->Prop}(e:Expr)(f:∀v a p,k v a p=true->P (.Attribute v a p))(h:tO e k=true):P e:=gf (P:=P) (fun a b d=>nf) (fun a b=>nf) (fun a b d g=>nf) (fun a b d=>nf) (fun a b d=>nf) (fun a b d g=>nf) (fun a b d g=>nf) (fun a b d=>nf) (fun a b=>nf) (fun a b d g=>nf) f (fun a b d=>nf) (fun a b d g=>nf) (fun a b d g=>nf) (fun a b d g=>nf) h
noncomputable def Fm(e:Expr)(k:Expr->Expr->Bool):Bool:=pk n1 n2 n3 n2 n2 n3 n3 n1 n2 n4 n3 k n3 n4 n4 e
@[elab_as_elim]theorem p7{k:Expr->Expr->Bool}{P:Expr->Prop}(e:Expr)(f:∀v i p,k v i=true->P (.Subscript v i p))(h:Fm e k=true):P e:=gf (P:=P) (fun a b d=>nf) (fun a b=>nf) (fun a b d g=>nf) (fun a b d=>nf) (fun a b d=>nf) (fun a b d g=>nf) (fun a b d g=>nf) (fun a b d=>nf) (fun a b=>nf) (fun a b d g=>nf) (fun a b d=>nf) f (fun a b d g=>nf) (fun a b d g=>nf) (fun a b d g=>nf) h
noncomputable def NC(e:Expr)(k:Option Expr->Option Expr->Option Expr->Bool):Bool:=pk n1 n2 n3 n2 n2 n3 n3 n1 n2 n4 n3 n2 k n4 n4 e
@[elab_as_elim]theorem B5{k:Option Expr->Option Expr->Option Expr->Bool}{P:Expr->Prop}(e:Expr)(f:∀a b d p,k a b d=true->P (.Slice a b d p))(h:NC e k=true):P e:=gf (P:=P) (fun a b d=>nf) (fun a b=>nf) (fun a b d g=>nf) (fun a b d=>nf) (fun a b d=>nf) (fun a b d g=>nf) (fun a b d g=>nf) (fun a b d=>nf) (fun a b=>nf) (fun a b d g=>nf) (fun a b d=>nf) (fun a b d=>nf) f (fun a b d g=>nf) (fun a b d g=>nf) h
noncomputable def qV(e:Expr)(k:Expr->List Expr->List Keyword->Pos->Bool):Bool:=pk n1 n2 n3 n2 n2 n3 n3 n1 n2 n4 n3 n2 n3 k n4 e
@[elab_as_elim]theorem j0{k:Expr->List Expr->List Keyword->Pos->Bool}{P:Expr->Prop}(e:Expr)(f:∀f l ks p,k f l ks p=true->P (.Call f l ks p))(h:qV e k=true):P e:=gf (P:=P) (fun a b d=>nf) (fun a b=>nf) (fun a b d g=>nf) (fun a b d=>nf) (fun a b d=>nf) (fun a b d g=>nf) (fun a b d g=>nf) (fun a b d=>nf) (fun a b=>nf) (fun a b d g=>nf) (fun a b d=>nf) (fun a b d=>nf) (fun a b d g=>nf) f (fun a b d g=>nf) h
noncomputable def Oa(e:Expr)(k:Arguments->Expr->Scope->Pos->Bool):Bool:=pk n1 n2 n3 n2 n2 n3 n3 n1 n2 n4 n3 n2 n3 n4 k e
@[elab_as_elim]theorem K0{k:Arguments->Expr->Scope->Pos->Bool}{P:Expr->Prop}(e:Expr)(f:∀a b s p,k a b s p=true->P (.Lambda a b s p))(h:Oa e k=true):P e:=gf (P:=P) (fun a b d=>nf) (fun a b=>nf) (fun a b d g=>nf) (fun a b d=>nf) (fun a b d=>nf) (fun a b d g=>nf) (fun a b d g=>nf) (fun a b d=>nf) (fun a b=>nf) (fun a b d g=>nf) (fun a b d=>nf) (fun a b d=>nf) (fun a b d g=>nf) (fun a b d g=>nf) f h
end
end
section
set_option backward.match.sparseCases false
noncomputable def sk(k0:Expr->Bool)(k1:Expr->Expr->Bool)(k2:Expr->Operator->Expr->Bool)(k3:Expr->Bool)(k4:Expr->List Stmt->List Stmt->Bool)(k5:Expr->List Stmt->Bool)(k6:Expr->Expr->List Stmt->Bool)(k7:Bool)(e:Stmt):Bool:=match e with
 |.Return (some v) p=>k0 v
 |.Assign [t] v p=>k1 t v
 |.AugAssign t o v p=>k2 t o v
 |.Expr v p=>k3 v
 |.If t b o p=>k4 t b o
 |.While t b [] p=>k5 t b
 |.For t i b [] p=>k6 t i b
 |.Continue p=>k7
 |_=>false
section
variable{P:Stmt->Prop}{e:Stmt}
theorem oZ{k0:Expr->Bool}{k1:Expr->Expr->Bool}{k2:Expr->Operator->Expr->Bool}{k3:Expr->Bool}{k4:Expr->List Stmt->List Stmt->Bool}{k5:Expr->List Stmt->Bool}{k6:Expr->Expr->List Stmt->Bool}{k7:Bool}(f0:∀v p,k0 v=true->P (.Return (some v) p))(f1:∀t v p,k1 t v=true->P (.Assign [t] v p))(f2:∀t o v p,k2 t o v=true->P (.AugAssign t o v p))(f3:∀v p,k3 v=true->P (.Expr v p))
  (f4:∀t b o p,k4 t b o=true->P (.If t b o p)) (f5:∀t b p,k5 t b=true->P (.While t b [] p)) (f6:∀t i b p,k6 t i b=true->P (.For t i b [] p)) (f7:∀p,k7=true->P (.Continue p)):sk k0 k1 k2 k3 k4 k5 k6 k7 e=true->P e:=by
 cases e with
 |Return v p=>cases v with
  |none=>exact nf
  |some v=>exact f0 v p
 |Assign t v p=>match t with
  |[t]=>exact f1 t v p
  |[]=>exact nf
  |a::b::t=>exact nf
 |AugAssign t o v p=>exact f2 t o v p
 |Expr v p=>exact f3 v p
 |If t b o p=>exact f4 t b o p
 |While t b o p=>cases o with
  |nil=>exact f5 t b p
  |cons a o=>exact nf
 |For t i b o p=>cases o with
  |nil=>exact f6 t i b p
  |cons a o=>exact nf
 |Continue p=>exact f7 p
 |_=>exact nf
end
noncomputable def dk(k0:Bool)(k1:Bool->Bool)(k2:Int->Bool)(k3:List Nat->Bool)(k4:List UInt8->Bool)(k5:List D->Bool)(y:D):Bool:=match y with
 |.none=>k0|.bool b=>k1 b|.int i=>k2 i|.str l=>k3 l|.bytes l=>k4 l|.tuple l=>k5 l|_=>false
noncomputable def Qj(x:D):D->Bool:=
 D.rec (motive_1:=fun a=>D->Bool) (motive_2:=fun a=>List D->Bool) (dk true n1 n1 n1 n1 n1) (fun b=>dk false (fun a=>a==b) n1 n1 n1 n1) (fun i=>dk false n1 (fun a=>a==i) n1 n1 n1) (fun l=>dk false n1 n1 (fun a=>a==l) n1 n1) (fun l=>dk false n1 n1 n1 (fun a=>a==l) n1)
  (fun l h=>dk false n1 n1 n1 n1 h) (fun l h=>n1) (fun l=>n1) (fun y=>y.isEmpty) (fun a l h h' y=>match y with|[]=>false|b::y=>h b&&h' y) x
theorem jR{P:D->Prop}{k0:Bool}{k1:Bool->Bool}{k2:Int->Bool}{k3:List Nat->Bool}{k4:List UInt8->Bool}{k5:List D->Bool}(f0:k0=true->P .none)(f1:∀a,k1 a=true->P (.bool a))(f2:∀a,k2 a=true->P (.int a))(f3:∀a,k3 a=true->P (.str a))(f4:∀a,k4 a=true->P (.bytes a))(f5:∀a,k5 a=true->P (.tuple a))(y:D):dk k0 k1 k2 k3 k4 k5 y=true->P y:=by
 cases y with
 |none=>exact f0|bool a=>exact f1 a|int a=>exact f2 a|str a=>exact f3 a|bytes a=>exact f4 a|tuple a=>exact f5 a
 |_=>exact nf
theorem CL{α:Type}[BEq α][LawfulBEq α]{f:α->D}{b a:α}(h:(a==b)=true):f b=f a:=congrArg f (eq_of_beq h).symm
theorem Ni(x:D):∀y,Qj x y=true->x=y:=
 D.rec (motive_1:=fun x=>∀y,Qj x y=true->x=y) (motive_2:=fun x=>∀y,D.rec_1 (motive_1:=fun a=>D->Bool) (motive_2:=fun a=>List D->Bool) (dk true n1 n1 n1 n1 n1) (fun b=>dk false (fun a=>a==b) n1 n1 n1 n1) (fun i=>dk false n1 (fun a=>a==i) n1 n1 n1) (fun l=>dk false n1 n1 (fun a=>a==l) n1 n1) (fun l=>dk false n1 n1 n1 (fun a=>a==l) n1)
  (fun l h=>dk false n1 n1 n1 n1 h) (fun l h=>n1) (fun l=>n1) (fun y=>y.isEmpty) (fun a l h h' y=>match y with|[]=>false|b::y=>h b&&h' y) x y=true->x=y)
  (jR (fun h=>rfl) (fun a=>nf) (fun a=>nf) (fun a=>nf) (fun a=>nf) fun a=>nf) (fun b=>jR nf (fun a=>CL) (fun a=>nf) (fun a=>nf) (fun a=>nf) fun a=>nf) (fun b=>jR nf (fun a=>nf) (fun a=>CL) (fun a=>nf) (fun a=>nf) fun a=>nf)
  (fun b=>jR nf (fun a=>nf) (fun a=>nf) (fun a=>CL) (fun a=>nf) fun a=>nf) (fun b=>jR nf (fun a=>nf) (fun a=>nf) (fun a=>nf) (fun a=>CL) fun a=>nf)
  (fun l h=>jR nf (fun a=>nf) (fun a=>nf) (fun a=>nf) (fun a=>nf) fun a e=>congrArg D.tuple (h a e)) (fun l h y=>nf) (fun l y=>nf) (fun y h=>(List.isEmpty_iff.mp h).symm)
  (fun a l h h' y=>by
   cases y with
   |nil=>exact nf
   |cons b y=>exact fun e=>h b (Bool.and_eq_true_iff.mp e).1▸h' y (Bool.and_eq_true_iff.mp e).2▸rfl) x
noncomputable def ER:B->Value
 |.len=>.builtin "len"|.ord=>.builtin "ord"|.chr=>.builtin "chr"|.abs=>.builtin "abs"|.min=>.builtin "min"|.all=>.builtin "all"|.isinstance=>.builtin "isinstance"
 |.cV=>.type "bytes"|.dg=>.type "bytearray"|.mS=>.type "str"|.u9=>.type "int"|.bF=>.type "tuple"|.jV=>.type "list"
noncomputable def cK(c:Const)(x:D):Bool:=match c with
 |.none=>dk true n1 n1 n1 n1 n1 x
 |.bool b=>dk false (fun a=>b==a) n1 n1 n1 n1 x
 |.int b=>dk false n1 (fun a=>b==a) n1 n1 n1 x
 |.str b=>dk false n1 n1 (fun a=>b.cps.toList==a) n1 n1 x
 |.bytes b=>dk false n1 n1 n1 (fun a=>b==a) n1 x
 |_=>false
noncomputable def cC(c:Const)(v:V):Bool:=match v with|.d x=>cK c x|_=>false
noncomputable def Rp:Op->Operator
 |.add=>.Add|.sub=>.Sub|.mul=>.Mult|.fdiv=>.FloorDiv|.mod=>.Mod|.pow=>.Pow
noncomputable def LV:Co->CmpOp
 |.eq=>.Eq|.ne=>.NotEq|.lt=>.Lt|.le=>.LtE|.gt=>.Gt|.ge=>.GtE|.mem=>.In|.A3=>.NotIn|.is=>.Is|.CJ=>.IsNot
noncomputable def Rx:At->Str
 |.text=>Str.ofString "text"|.data=>Str.ofString "data"|.at=>Str.ofString "at"
noncomputable def yL(k:Bool):BoolOp:=cond k .And .Or
noncomputable def xc(e:Expr):Bool:=match e with|.Starred a p=>false|.Set a n p=>false|_=>true
noncomputable def R6(e:Expr):Bool:=match e with|.UnaryOp o a p=> !(o==.Not)|.BoolOp o a p=>false|.IfExp a b d p=>false|_=>true
noncomputable def RU(e:Expr):Bool:=match e with|.ListComp a b d p=>false|.SetComp a b d p=>false|.DictComp a b d g p=>false|_=>true
noncomputable def Rh(e:Expr):Bool:=match e with|.Call f l ks p=>(match f with|.Name x q=>l.length != 0|_=>true)|_=>true
noncomputable def frees(ct:Ct)(l:List Str)(m:List Nat):Bool:=(l.length==m.length)&&(l.zip m).all fun a=>ct.cells[a.2]? ==some a.1
noncomputable def noArgs(a:Arguments):Bool:=a.posonlyargs.isEmpty&&a.args.isEmpty&&a.vararg.isNone&&a.kwonlyargs.isEmpty&&a.kw_defaults.isEmpty&&a.kwarg.isNone&&a.defaults.isEmpty
noncomputable def o1{α:Type}(l:List α)(k:α->Bool):Bool:=match l with|[a]=>k a|_=>false
noncomputable def o2{α:Type}(l:List α)(k:α->α->Bool):Bool:=match l with|[a,b]=>k a b|_=>false
noncomputable def oS{α:Type}(l:Option α)(k:α->Bool):Bool:=match l with|some a=>k a|none=>false
noncomputable def NL(l:List Comprehension)(k:Expr->Expr->List Expr->Bool):Bool:=match l with|[⟨t,i,f,0⟩]=>k t i f|_=>false
noncomputable def jo:It->Bool|.enum e=>true|_=>false
noncomputable def isTup:Tg->Bool|.tup l=>true|_=>false
noncomputable def JB:Ex->Bool|.cmp l o r=>true|.iX l o r o' r'=>true|_=>false
noncomputable def Jn:Ex->Bool|.comp m elt tg it ifs nl nc free=>true|_=>false
noncomputable def inner(sc:Scope)(ct:Ct):Ct:=ji sc ct.code
noncomputable def Bu(sc:Scope):Ct:=⟨[],pick .free sc,pick .globalImplicit sc,.none⟩
mutual
noncomputable def cE(g:Gt):Ex->Ct->Expr->Bool
 |.const v,ct,e=>Ag e (fun c=>cC c v)||jW e (fun x p=>ct.ro.contains x&&g.name x v)
 |.lv i,ct,e=>jW e fun x p=>ct.locs[i]? ==some x
 |.cv i,ct,e=>jW e fun x p=>ct.cells[i]? ==some x
 |.bin o l r,ct,e=>O5 e fun a p b=>(Rp o==p)&&cE g l ct a&&cE g r ct b
 |.neg l,ct,e=>P6 e fun p a=>(p==.USub)&&cE g l ct a
 |.gY k es,ct,e=>GV e fun p l=>(yL k==p)&&Dz g es ct l
 |.cmp l o r,ct,e=>Iv e fun a p b=>o1 p fun p=>o1 b fun b=>(LV o==p)&&cE g l ct a&&cE g r ct b&&xc b
 |.iX l o r o' r',ct,e=>Iv e fun a p b=>o2 p fun p p'=>o2 b fun b b'=>(LV o==p)&&(LV o'==p')&&cE g l ct a&&cE g r ct b&&cE g r' ct b'&&xc b'
 |.aT t x y,ct,e=>Sk e fun a b d=>cT g t ct a&&cE g x ct b&&cE g y ct d
 |.tuple es,ct,e=>tE e fun l=>Dz g es ct l
 |.list m es,ct,e=>Lk e fun l p=>Dz g es ct l
 |.comp m elt tg it ifs nl nc free,ct,e=>BX e fun a gs sc p=>NL gs fun t i f=>tc sc&&cI g it ct i&&cE g elt (inner sc ct) a&&cG g tg (inner sc ct) t&&LF g ifs (inner sc ct) f&&frees ct (pick .free sc) free&&(!(jo it)||isTup tg)&&(nl==(pick .local sc).length)&&(nc==(pick .cell sc).length)
 |.attr x y,ct,e=>tO e fun a b p=>(b==Rx y)&&cE g x ct a&&Rh a
 |.sub x i,ct,e=>Fm e fun a b=>cE g x ct a&&cE g i ct b
 |.slice x lo hi,ct,e=>Fm e fun a b=>NC b fun u v d=>d.isNone&&cE g x ct a&&cO g lo ct u&&cO g hi ct v
 |.rev x,ct,e=>Fm e fun a b=>NC b fun u v d=>u.isNone&&v.isNone&&(oS d fun d=>P6 d fun p d=>(p==.USub)&&Ag d fun d=>cC d (.d (.int 1)))&&cE g x ct a
 |.call f as,ct,e=>qV e fun a l ks p=>ks.isEmpty&& !(tO a fun u v p=>true)&&cE g f ct a&&Dz g as ct l
 |.ag o m as,ct,e=>qV e fun a l ks p=>ks.isEmpty&&tO a fun u x q=>(q.endLine==p.line)&&Nat.blt l.length 30&&g.G5 x m&&cE g o ct u&&Dz g as ct l&&Rh u
 |.lam j free,ct,e=>Oa e fun a b sc p=>g.lam ct.code p&&tc sc&&noArgs a&&(pick .cell sc).isEmpty&&(pick .local sc).isEmpty&&frees ct (pick .free sc) free&&g.IH j (Bu sc) b
noncomputable def cO(g:Gt):Option Ex->Ct->Option Expr->Bool
 |none,ct,e=>e.isNone
 |some x,ct,e=>oS e fun e=>cE g x ct e
noncomputable def Dz(g:Gt):List Ex->Ct->List Expr->Bool
 |[],ct,l=>l.isEmpty
 |x::xs,ct,l=>(match l with|[]=>false|e::l=>cE g x ct e&&xc e&&Dz g xs ct l)
noncomputable def cT(g:Gt):Ts->Ct->Expr->Bool
 |.not t,ct,e=>P6 e fun p a=>(p==.Not)&&cT g t ct a
 |.bool k ts,ct,e=>GV e fun p l=>(yL k==p)&&LF g ts ct l
 |.val x,ct,e=>cE g x ct e&&R6 e&&(JB x==Iv e fun a b d=>true)
noncomputable def LF(g:Gt):List Ts->Ct->List Expr->Bool
 |[],ct,l=>l.isEmpty
 |x::xs,ct,l=>(match l with|[]=>false|e::l=>cT g x ct e&&LF g xs ct l)
noncomputable def cI(g:Gt):It->Ct->Expr->Bool
 |.ex x,ct,e=>cE g x ct e&&xc e
 |.range es,ct,e=>qV e fun a l ks p=>ks.isEmpty&&jW a fun x p=>(x==Str.ofString "range")&&ct.ro.contains x&&(l.length==1)&&Dz g es ct l
 |.enum x,ct,e=>qV e fun a l ks p=>ks.isEmpty&&jW a fun y p=>(y==Str.ofString "enumerate")&&ct.ro.contains y&&o1 l fun b=>cE g x ct b&&xc b
noncomputable def cG(g:Gt):Tg->Ct->Expr->Bool
 |.lv i,ct,e=>jW e fun x p=>ct.locs[i]? ==some x
 |.cv i,ct,e=>jW e fun x p=>ct.cells[i]? ==some x
 |.tup ts,ct,e=>tE e fun l=>Oc g ts ct l
 |.attr x y,ct,e=>tO e fun a b p=>(b==Rx y)&&cE g x ct a
 |.sub x i,ct,e=>Fm e fun a b=>cE g x ct a&&cE g i ct b
noncomputable def Oc(g:Gt):List Tg->Ct->List Expr->Bool
 |[],ct,l=>l.isEmpty
 |x::xs,ct,l=>(match l with|[]=>false|e::l=>cG g x ct e&&xc e&&Oc g xs ct l)
end
noncomputable def L0(ct:Ct)(t:Tg)(te e:Expr):Bool:=tE te fun ts=>tE e fun vs=>o2 ts fun a b=>jW a fun x p=>jW b fun y q=>(vs.length==2)&&(vs.all xc)&&(p.line==q.line)&&(x != y)&&ct.locs.contains x&&ct.locs.contains y&& !(vs.all (foldedForSure 8))&& !(vs.all (constantsAlone 8))&&(match t with
 |.tup l=>o2 l fun u v=>(match u with|.lv i=>(match v with|.lv j=>true|_=>false)|_=>false)
 |_=>false)
noncomputable def MJ(t e:Expr):Bool:=match t with
 |.Tuple ts n p=>(match e with|.Tuple vs n p=> !(ts.length==2||ts.length==3)|_=>true)
 |.List ts p=>false
 |_=>true
noncomputable def Ob(e:Stmt)(k:Expr->Bool):Bool:=sk k n2 n3 n1 n3 n2 n3 false e
noncomputable def PH(e:Stmt)(k:Expr->Expr->Bool):Bool:=sk n1 k n3 n1 n3 n2 n3 false e
noncomputable def O3(e:Stmt)(k:Expr->Operator->Expr->Bool):Bool:=sk n1 n2 k n1 n3 n2 n3 false e
noncomputable def Pd(e:Stmt)(k:Expr->Bool):Bool:=sk n1 n2 n3 k n3 n2 n3 false e
noncomputable def RW(e:Stmt)(k:Expr->List Stmt->List Stmt->Bool):Bool:=sk n1 n2 n3 n1 k n2 n3 false e
noncomputable def O0(e:Stmt)(k:Expr->List Stmt->Bool):Bool:=sk n1 n2 n3 n1 n3 k n3 false e
noncomputable def OF(e:Stmt)(k:Expr->Expr->List Stmt->Bool):Bool:=sk n1 n2 n3 n1 n3 n2 k false e
noncomputable def PI(e:Stmt):Bool:=sk n1 n2 n3 n1 n3 n2 n3 true e
section
@[elab_as_elim]theorem Km{k:Expr->Bool}{P:Stmt->Prop}(e:Stmt)(f:∀v p,k v=true->P (.Return (some v) p))(h:Ob e k=true):P e:=oZ (P:=P) f (fun a b d=>nf) (fun a b d g=>nf) (fun a b=>nf) (fun a b d g=>nf) (fun a b d=>nf) (fun a b d g=>nf) (fun a=>nf) h
@[elab_as_elim]theorem Lb{k:Expr->Expr->Bool}{P:Stmt->Prop}(e:Stmt)(f:∀t v p,k t v=true->P (.Assign [t] v p))(h:PH e k=true):P e:=oZ (P:=P) (fun a b=>nf) f (fun a b d g=>nf) (fun a b=>nf) (fun a b d g=>nf) (fun a b d=>nf) (fun a b d g=>nf) (fun a=>nf) h
@[elab_as_elim]theorem Kl{k:Expr->Operator->Expr->Bool}{P:Stmt->Prop}(e:Stmt)(f:∀t o v p,k t o v=true->P (.AugAssign t o v p))(h:O3 e k=true):P e:=oZ (P:=P) (fun a b=>nf) (fun a b d=>nf) f (fun a b=>nf) (fun a b d g=>nf) (fun a b d=>nf) (fun a b d g=>nf) (fun a=>nf) h
@[elab_as_elim]theorem Jg{k:Expr->Bool}{P:Stmt->Prop}(e:Stmt)(f:∀v p,k v=true->P (.Expr v p))(h:Pd e k=true):P e:=oZ (P:=P) (fun a b=>nf) (fun a b d=>nf) (fun a b d g=>nf) f (fun a b d g=>nf) (fun a b d=>nf) (fun a b d g=>nf) (fun a=>nf) h
@[elab_as_elim]theorem M9{k:Expr->List Stmt->List Stmt->Bool}{P:Stmt->Prop}(e:Stmt)(f:∀t b o p,k t b o=true->P (.If t b o p))(h:RW e k=true):P e:=oZ (P:=P) (fun a b=>nf) (fun a b d=>nf) (fun a b d g=>nf) (fun a b=>nf) f (fun a b d=>nf) (fun a b d g=>nf) (fun a=>nf) h
@[elab_as_elim]theorem JC{k:Expr->List Stmt->Bool}{P:Stmt->Prop}(e:Stmt)(f:∀t b p,k t b=true->P (.While t b [] p))(h:O0 e k=true):P e:=oZ (P:=P) (fun a b=>nf) (fun a b d=>nf) (fun a b d g=>nf) (fun a b=>nf) (fun a b d g=>nf) f (fun a b d g=>nf) (fun a=>nf) h
@[elab_as_elim]theorem JX{k:Expr->Expr->List Stmt->Bool}{P:Stmt->Prop}(e:Stmt)(f:∀t i b p,k t i b=true->P (.For t i b [] p))(h:OF e k=true):P e:=oZ (P:=P) (fun a b=>nf) (fun a b d=>nf) (fun a b d g=>nf) (fun a b=>nf) (fun a b d g=>nf) (fun a b d=>nf) f (fun a=>nf) h
@[elab_as_elim]theorem Jj{P:Stmt->Prop}(e:Stmt)(f:∀p,P (.Continue p))(h:PI e=true):P e:=oZ (P:=P) (fun a b=>nf) (fun a b d=>nf) (fun a b d g=>nf) (fun a b=>nf) (fun a b d g=>nf) (fun a b d=>nf) (fun a b d g=>nf) (fun p h=>f p) h
end
mutual
noncomputable def cS(g:Gt):St->Ct->Stmt->Bool
 |.assign t x,ct,s=>PH s fun a b=>cG g t ct a&&cE g x ct b&&cond (Jn x) (BX b (fun a gs s p=>true)&&MJ a b) (RU b&&(MJ a b||L0 ct t a b))
 |.aug i x,ct,s=>O3 s fun a o b=>(o==.Add)&&(jW a fun y p=>ct.locs[i]? ==some y)&&cE g x ct b
 |.ret x,ct,s=>Ob s fun a=>cE g x ct a
 |.expr x,ct,s=>Pd s fun a=>cE g x ct a&&(qV a fun f l ks p=>true)
 |.aT t b o,ct,s=>RW s fun a p q=>cT g t ct a&&FP g b ct p&&FP g o ct q
 |.sR t b,ct,s=>O0 s fun a p=>cT g t ct a&&FP g b ct p
 |.FN t it b,ct,s=>OF s fun a i p=>cG g t ct a&&cI g it ct i&&FP g b ct p&&(!(jo it)||isTup t)
 |.cont,ct,s=>PI s
 |.stop,ct,s=>true
noncomputable def FP(g:Gt):List St->Ct->List Stmt->Bool
 |[],ct,l=>l.isEmpty
 |s::ss,ct,l=>(match l with|[]=>false|a::l=>cS g s ct a&&FP g ss ct l)
end
end
section
abbrev lI:=List (Addr×Addr)
abbrev lI.own(ads:lI):List Addr:=ads.map (·.2)
structure zU where
 c:Addr
 P:Addr
 pos:Pos
 qual:Str
structure Cx where
 prog:Program
 w:World
 K:Frag
 hB:Heap
 fa:List Addr
 aC:Addr
 wC:Addr
 zq:List zU
 g:Gt
abbrev Cx.tb(c:Cx):List Addr:=c.zq.map (·.P)
abbrev Cx.M(c:Cx):Model:=model c.prog c.w
noncomputable def Kv(x:Int×Nat×Tok×Tok)(l:List Nat):Obj:=W.dictOf [⟨x.1,.str (Str.ofString "text") x.2.2.1,.str ⟨l.toArray⟩ x.2.2.2⟩] x.2.1
noncomputable def wk(x:Int×Int×Nat×Tok×Tok×Tok×Tok)(d:List UInt8)(i:Int):Obj:=W.dictOf [⟨x.1,.str (Str.ofString "data") x.2.2.2.1,.bytes d.toArray x.2.2.2.2.1⟩,⟨x.2.1,.str (Str.ofString "at") x.2.2.2.2.2.1,.int i x.2.2.2.2.2.2⟩] x.2.2.1
def Ib(F:Heap)(C:Addr)(l:List Nat)(a:Addr):Prop:=∃dx x,F.get? a=some (instObj C dx)/\F.get? dx=some (Kv x l)
def MK(h:Heap)(a:Addr)(d:List UInt8)(i:Int):Prop:=∃x,h.get? a=some (wk x d i)
def CD(c:Cx)(F:Heap)(d:D):Value->Prop:=
 D.rec (motive_1:=fun d=>Value->Prop) (motive_2:=fun l=>List Value->Prop)
  (fun u=>u=.none) (fun b u=>u=.bool b) (fun i u=>∃t,u=.int i t) (fun l u=>∃t,u=.str ⟨l.toArray⟩ t) (fun l u=>∃t,u=.bytes l.toArray t)
  (fun l h u=>∃a vs,u=.ref a/\IsTup F a vs.toArray/\h vs) (fun l h u=>∃a vs,u=.ref a/\F.IsList a vs.toArray/\h vs) (fun l u=>∃a,u=.ref a/\Ib F c.aC l a)
  (fun vs=>vs=[]) (fun d l h t vs=>∃u us,vs=u::us/\h u/\t us) d
abbrev jm(c:Cx)(F:Heap):List D->List Value->Prop:=Z (CD c F)
theorem HR{c:Cx}{F:Heap}(l:List D):D.rec_1 (motive_1:=fun d=>Value->Prop) (motive_2:=fun l=>List Value->Prop)
  (fun u=>u=.none) (fun b u=>u=.bool b) (fun i u=>∃t,u=.int i t) (fun l u=>∃t,u=.str ⟨l.toArray⟩ t) (fun l u=>∃t,u=.bytes l.toArray t)
  (fun l h u=>∃a vs,u=.ref a/\IsTup F a vs.toArray/\h vs) (fun l h u=>∃a vs,u=.ref a/\F.IsList a vs.toArray/\h vs) (fun l u=>∃a,u=.ref a/\Ib F c.aC l a)
  (fun vs=>vs=[]) (fun d l h t vs=>∃u us,vs=u::us/\h u/\t us) l=jm c F l:=by
 induction l with
 |nil=>rfl
 |cons d l ih=>exact congrArg (fun t vs=>∃u us,vs=u::us/\CD c F d u/\t us) ih
theorem cp{c:Cx}{F:Heap}{l:List D}{u:Value}:CD c F (.tuple l) u↔ ∃a vs,u=.ref a/\IsTup F a vs.toArray/\jm c F l vs:=Iff.of_eq (congrArg (fun(t:List Value->Prop)=>∃a vs,u=.ref a/\IsTup F a (List.toArray vs)/\t vs) (HR l))
theorem bf{c:Cx}{F:Heap}{l:List D}{u:Value}:CD c F (.list l) u↔ ∃a vs,u=.ref a/\F.IsList a vs.toArray/\jm c F l vs:=Iff.of_eq (congrArg (fun(t:List Value->Prop)=>∃a vs,u=.ref a/\F.IsList a (List.toArray vs)/\t vs) (HR l))
def CH(F:Heap)(a:Addr)(vz:List (Str×Addr))(e:Expr)(sc:Scope):Prop:=∃pm cdv ct qual,F.get? a=some {cls:=.type "function",data:=.func (kla_fn "<lambda>" qual ⟨[],[],none,[],[],none,[]⟩ e sc vz pm cdv ct)}/\F.CodeRec cdv qual
structure NF(c:Cx)(j:Nat)(e:Expr)(sc:Scope):Prop where
 ok:tc sc=true
 own:pick .cell sc=[]
 b:c.g.IH j (Bu sc) e=true
def IC(ads:lI)(vz:List (Str×Addr))(x:Str)(k:Nat):Prop:=∃b,ads[k]? =some (b,b)/\vz.lookup x=some b
def AZ(c:Cx)(F:Heap)(ads:lI)(j:Nat)(cs:List Nat)(u:Value):Prop:=∃a vz e sc,u=.ref a/\CH F a vz e sc/\NF c j e sc/\Z (IC ads vz) (pick .free sc) cs
def CV(c:Cx)(F:Heap)(ads:lI)(v:V):Value->Prop:=
 V.rec (motive_1:=fun d=>Value->Prop) (motive_2:=fun l=>List Value->Prop)
  (fun x=>CD c F x) (fun k u=>∃a o,u=.ref a/\ads[k]? =some (a,o)) (fun i u=>∃a,u=.ref a/\c.fa[i]? =some a) (fun b u=>u=ER b) (fun u=>u=.ref c.aC) (fun u=>u=.ref c.wC) (fun j cs=>AZ c F ads j cs)
  (fun l h u=>∃a vs,u=.ref a/\IsTup F a vs.toArray/\h vs) (fun vs=>vs=[]) (fun d l h t vs=>∃u us,vs=u::us/\h u/\t us) v
abbrev fC(c:Cx)(F:Heap)(ads:lI):List V->List Value->Prop:=Z (CV c F ads)
theorem Mm{c:Cx}{F:Heap}{ads:lI}(l:List V):V.rec_1 (motive_1:=fun d=>Value->Prop) (motive_2:=fun l=>List Value->Prop)
  (fun x=>CD c F x) (fun k u=>∃a o,u=.ref a/\ads[k]? =some (a,o)) (fun i u=>∃a,u=.ref a/\c.fa[i]? =some a) (fun b u=>u=ER b) (fun u=>u=.ref c.aC) (fun u=>u=.ref c.wC) (fun j cs=>AZ c F ads j cs)
  (fun l h u=>∃a vs,u=.ref a/\IsTup F a vs.toArray/\h vs) (fun vs=>vs=[]) (fun d l h t vs=>∃u us,vs=u::us/\h u/\t us) l=fC c F ads l:=by
 induction l with
 |nil=>rfl
 |cons d l ih=>exact congrArg (fun t vs=>∃u us,vs=u::us/\CV c F ads d u/\t us) ih
theorem hZ{c:Cx}{F:Heap}{ads:lI}{l:List V}{u:Value}:CV c F ads (.tup l) u↔ ∃a vs,u=.ref a/\IsTup F a vs.toArray/\fC c F ads l vs:=Iff.of_eq (congrArg (fun(t:List Value->Prop)=>∃a vs,u=.ref a/\IsTup F a (List.toArray vs)/\t vs) (Mm l))
def MO(c:Cx)(F:Heap)(ads:lI)(h:Heap)(p:Addr×Addr)(m:aI):Prop:=match m with
 |.list l=>p.1=p.2/\∃vs,h.PlainList p.2 vs.toArray/\jm c F l vs
 |.gV l=>p.1=p.2/\∃vs,h.PlainList p.2 vs.toArray/\fC c F ads l vs
 |.eX b=>p.1=p.2/\h.get? p.2=some {cls:=.type "bytearray",data:=.bytearray b.toArray}
 |.wire d i=>F.get? p.1=some (instObj c.wC p.2)/\MK h p.2 d i
 |.cell v=>p.1=p.2/\∃o,h.IsCell p.2 o/\∀x,v=some x->∃u,o=some u/\CV c F ads x u
 |.dead=>True
def Pr(ads ads':lI):Prop:=∀(i:Nat) (p:Addr×Addr),ads[i]? =some p->ads'[i]? =some p
section
variable{c:Cx}{F F':Heap}{ads ads':lI}{h h':Heap}
theorem aE{a:Addr}{vs:Array Value}(k:Le F F')(x:F.IsList a vs):F'.IsList a vs:=x.imp fun o x=>⟨k _ _ x.1,x.2⟩
theorem CD.mono(k:Le F F')(d:D):∀u,CD c F d u->CD c F' d u:=
 D.rec (motive_1:=fun d=>∀u,CD c F d u->CD c F' d u) (motive_2:=fun l=>∀vs,jm c F l vs->jm c F' l vs) (fun u=>id) (fun b u=>id) (fun b u=>id) (fun b u=>id) (fun b u=>id)
  (fun l h u e=>cp.mpr ((cp.mp e).imp fun a e=>e.imp fun vs e=>⟨e.1,e.2.1.keeps k,h vs e.2.2⟩)) (fun l h u e=>bf.mpr ((bf.mp e).imp fun a e=>e.imp fun vs e=>⟨e.1,aE k e.2.1,h vs e.2.2⟩))
  (fun l u e=>e.imp fun a e=>⟨e.1,e.2.imp fun dx e=>e.imp fun x e=>⟨k _ _ e.1,k _ _ e.2⟩⟩) (fun vs=>id)
  (fun d l h t vs e=>Exists.imp (fun u e=>Exists.imp (fun us e=>⟨e.1,h u e.2.1,t us e.2.2⟩) e) e) d
theorem jm.mono(k:Le F F'){l:List D}{vs:List Value}(e:jm c F l vs):jm c F' l vs:=Z.imp (fun a m b=>CD.mono k a b) e
theorem CH.mono(k:Le F F'){a:Addr}{vz:List (Str×Addr)}{b:Expr}{sc:Scope}(e:CH F a vz b sc):CH F' a vz b sc:=e.imp fun d e=>e.imp fun d e=>e.imp fun d e=>e.imp fun d e=>⟨k _ _ e.1,e.2.keeps k⟩
theorem IC.mono{cs:List Nat}{vz:List (Str×Addr)}{l:List Str}(ka:∀i∈cs,∀p,ads[i]? =some p->ads'[i]? =some p)(e:Z (IC ads vz) l cs):Z (IC ads' vz) l cs:=
 .of e.len fun i x j h1 h2=>(e.get h1).elim fun b h=>h.2.imp fun d q=>⟨ka _ (List.mem_of_getElem? h2) _ (Option.some.inj (h.1.symm.trans h2)▸q.1),q.2⟩
theorem AZ.mono(k:Le F F'){j:Nat}{cs:List Nat}{u:Value}(ka:∀i∈cs,∀p,ads[i]? =some p->ads'[i]? =some p)(e:AZ c F ads j cs u):AZ c F' ads' j cs u:=
 e.imp fun a e=>e.imp fun vz e=>e.imp fun b e=>e.imp fun sc e=>⟨e.1,e.2.1.mono k,e.2.2.1,IC.mono ka e.2.2.2⟩
theorem CV.mono(k:Le F F')(ka:Pr ads ads')(v:V):∀u,CV c F ads v u->CV c F' ads' v u:=
 V.rec (motive_1:=fun d=>∀u,CV c F ads d u->CV c F' ads' d u) (motive_2:=fun l=>∀vs,fC c F ads l vs->fC c F' ads' l vs) (fun x=>CD.mono k x) (fun i u e=>e.imp fun a e=>e.imp fun o e=>⟨e.1,ka _ _ e.2⟩) (fun i u=>id) (fun i u=>id) (fun u=>id) (fun u=>id) (fun j cs u e=>AZ.mono k (fun i m p=>ka i p) e)
  (fun l h u e=>hZ.mpr ((hZ.mp e).imp fun a e=>e.imp fun vs e=>⟨e.1,e.2.1.keeps k,h vs e.2.2⟩)) (fun vs=>id)
  (fun d l h t vs e=>Exists.imp (fun u e=>Exists.imp (fun us e=>⟨e.1,h u e.2.1,t us e.2.2⟩) e) e) v
theorem fC.mono(k:Le F F')(ka:Pr ads ads'){l:List V}{vs:List Value}(e:fC c F ads l vs):fC c F' ads' l vs:=Z.imp (fun a m b=>CV.mono k ka a b) e
theorem Pr.rfl:Pr ads ads:=fun i p=>id
theorem Pr.app(new:lI):Pr ads (ads++new):=fun i p e=>by rw[List.getElem?_append_left (List.getElem?_eq_some_iff.mp e).1];exact e
theorem MO.at{p:Addr×Addr}{m:aI}(k:∀o,h.get? p.2=some o->h'.get? p.2=some o)(x:MO c F ads h p m):MO c F ads h' p m:=by
 cases m with
 |list l=>exact⟨x.1,x.2.imp fun vs e=>⟨e.1.imp fun n e=>k _ e,e.2⟩⟩
 |gV l=>exact⟨x.1,x.2.imp fun vs e=>⟨e.1.imp fun n e=>k _ e,e.2⟩⟩
 |eX b=>exact⟨x.1,k _ x.2⟩
 |wire d i=>exact⟨x.1,x.2.imp fun a e=>k _ e⟩
 |cell v=>exact⟨x.1,x.2.imp fun o e=>⟨e.1.imp fun o e=>⟨k _ e.1,e.2⟩,e.2⟩⟩
 |dead=>exact x
theorem MO.grow(k:Le F F')(ka:Pr ads ads'){p:Addr×Addr}{m:aI}(x:MO c F ads h p m):MO c F' ads' h p m:=by
 cases m with
 |list l=>exact⟨x.1,x.2.imp fun vs e=>⟨e.1,e.2.mono k⟩⟩
 |gV l=>exact⟨x.1,x.2.imp fun vs e=>⟨e.1,e.2.mono k ka⟩⟩
 |eX b=>exact x
 |wire d i=>exact⟨k _ _ x.1,x.2⟩
 |cell v=>exact⟨x.1,x.2.imp fun o e=>⟨e.1,fun x q=>(e.2 x q).imp fun u e=>⟨e.1,CV.mono k ka x u e.2⟩⟩⟩
 |dead=>exact x
end
structure Wd where
 F:Heap
 a:lI
 s:Shared
abbrev Wd.h(w:Wd):Heap:=w.s.heap
def Al(h:Heap)(b:Addr):Prop:=∃o,h.get? b=some o
theorem Le.al{h h':Heap}(k:Le h h'){b:Addr}(x:Al h b):Al h' b:=x.imp fun o=>k b o
theorem Al.ne{h:Heap}{b:Addr}(x:Al h b)(e:h.get? b=none):False:=x.elim fun o q=>nomatch e.symm.trans q
theorem fh{h:Heap}{b:Addr}(z:h.objs.size<=b):h.get? b=none:=Option.eq_none_iff_forall_ne_some.mpr fun o e=>Nat.not_lt.mpr z (Heap.lt_size e)
def PQ(F:Heap)(li:zU)(ps:Array Value):Prop:=ps=#[]\/∃b:Addr,ps=#[rawInt li.pos.line,rawInt li.pos.col,.ref b]/\F.CodeRec (.ref b) li.qual
structure Sat(c:Cx)(w:Wd)(μ:Mu):Prop where
 base:Le c.hB w.F
 sub:Le w.F w.h
 len:w.a.length=μ.length
 mo:∀(k:Nat) p m,w.a[k]? =some p->μ[k]? =some m->MO c w.F w.a w.h p m
 own:∀b∈w.a.own,w.F.get? b=none/\Al w.h b/\b∉c.tb
 nd:w.a.own.Nodup
 tab:∀li∈c.zq,w.F.get? li.P=none/\∃ps,w.h.get? li.P=some (tabObj ps)/\PQ w.F li ps
structure Step(c:Cx)(L:List Addr)(w w':Wd):Prop where
 g:w'.s.gens=w.s.gens
 o:w'.s.os=w.s.os
 grow:Le w.F w'.F
 Mq:∀b,Al w.h b->b∉L->w.F.get? b=none->w'.F.get? b=none
 pre:∃new,w'.a=w.a++new/\∀b∈lI.own new,w.h.get? b=none\/b∈L
 keep:∀b o,w.h.get? b=some o->b∉w.a.own->b∉c.tb->b∉L->w'.h.get? b=some o
 live:∀b,Al w.h b->b∉L->Al w'.h b
structure Pv(c:Cx)(w:Wd)(b:Addr):Prop where
 f:w.F.get? b=none
 o:b∉w.a.own
 t:b∉c.tb
 l:Al w.h b
section
variable{c:Cx}{L L':List Addr}{w w' w'':Wd}{μ μ':Mu}
theorem fV{a b:lI}{x:Addr}:x∈lI.own (a++b)↔x∈a.own\/x∈b.own:=by rw[lI.own,List.map_append];exact List.mem_append
theorem lD{a:lI}{h:Heap}:∃new,a=a++new/\∀b∈lI.own new,h.get? b=none\/b∈L:=⟨[],(List.append_nil _).symm,fun b m=>nomatch m⟩
theorem Step.rfl:Step c L w w:=⟨_root_.rfl,_root_.rfl,Le.rfl,fun b l d=>id,lD,fun b o e d d d=>e,fun b l d=>l⟩
theorem Step.trans(x:Step c L w w')(y:Step c L w' w''):Step c L w w'':=by
 obtain⟨n1,e1,p1⟩:=x.pre
 obtain⟨n2,e2,p2⟩:=y.pre
 refine⟨y.g.trans x.g,y.o.trans x.o,x.grow.trans y.grow,fun b hb d e=>y.Mq b (x.live b hb d) d (x.Mq b hb d e),⟨n1++n2,by rw[e2,e1,TP],fun b hb=>?_⟩,fun b o e h1 h2 h3=>?_,fun b hb d=>y.live b (x.live b hb d) d⟩
 ·exact(fV.mp hb).elim (p1 b) fun q=>(Classical.em (b∈L)).elim .inr fun d=>(p2 b q).imp (fun q=>Option.eq_none_iff_forall_ne_some.mpr fun o e=>(x.live b ⟨o,e⟩ d).ne q) id
 ·refine y.keep b o (x.keep b o e h1 h2 h3) (fun q=>?_) h2 h3
  rw[e1] at q
  exact(fV.mp q).elim h1 fun q=>(p1 b q).elim (Al.ne ⟨o,e⟩) h3
theorem Step.cut(x:Step c L w w')(k:∀b∈L,b∈L'\/w.h.get? b=none):Step c L' w w':=
 ⟨x.g,x.o,x.grow,fun b l d=>x.Mq b l fun q=>(k b q).elim d l.ne,x.pre.imp fun n e=>⟨e.1,fun b hb=>(e.2 b hb).elim .inl fun q=>(k b q).elim .inr .inl⟩,fun b o e h1 h2 h3=>x.keep b o e h1 h2 fun q=>(k b q).elim h3 (Al.ne ⟨o,e⟩),fun b l d=>x.live b l fun q=>(k b q).elim d l.ne⟩
theorem Step.up(x:Step c [] w w'):Step c L w w':=x.cut fun b m=>nomatch m
theorem Step.pr(x:Step c L w w'):Pr w.a w'.a:=by obtain⟨n,e,p⟩:=x.pre;rw[e];exact .app n
theorem Step.cv(x:Step c L w w'){v:V}{u:Value}(e:CV c w.F w.a v u):CV c w'.F w'.a v u:=CV.mono x.grow x.pr v u e
theorem Step.P5(x:Step c L w w'){v:List V}{u:List Value}(e:fC c w.F w.a v u):fC c w'.F w'.a v u:=e.mono x.grow x.pr
theorem Step.pv(x:Step c L w w'){b:Addr}(d:b∉L)(p:Pv c w b):Pv c w' b:=by
 obtain⟨n,e,q⟩:=x.pre
 exact⟨x.Mq b p.l d p.f,fun k=>(fV.mp (e▸k)).elim p.o fun k=>(q _ k).elim p.l.ne d,p.t,x.live b p.l d⟩
theorem Step.jx(x:Step c L w w'){b:Addr}{o:Obj}(p:Pv c w b)(hb:b∉L)(e:w.h.get? b=some o):w'.h.get? b=some o:=x.keep b o e p.o p.t hb
theorem Sat.Tt(S:Sat c w μ){b:Addr}(hb:b∈c.tb):Al w.h b:=by
 obtain⟨li,hl,rfl⟩:=List.mem_map.mp hb
 exact(S.tab li hl).2.elim fun ps e=>⟨_,e.1⟩
theorem Sat.new(S:Sat c w μ){b:Addr}(hb:w.h.get? b=none):w.F.get? b=none/\b∉w.a.own/\b∉c.tb:=
 ⟨Option.eq_none_iff_forall_ne_some.mpr fun o e=>Al.ne ⟨o,S.sub _ _ e⟩ hb,fun q=>(S.own b q).2.1.ne hb,fun q=>(S.Tt q).ne hb⟩
theorem Sat.jx{s:Shared}(S:Sat c w μ)(k:∀b o,w.h.get? b=some o->b∉L->s.heap.get? b=some o)(hL:∀b∈L,Pv c w b):Sat c ⟨w.F,w.a,s⟩ μ:=by
 have ko:∀b∈w.a.own,∀o,w.h.get? b=some o->s.heap.get? b=some o:=fun b q o e=>k b o e fun q'=>(hL b q').o q
 exact⟨S.base,fun b o e=>k b o (S.sub _ _ e) fun q=>(nomatch (hL b q).f.symm.trans e),S.len,fun i p m e1 e2=>(S.mo i p m e1 e2).at (ko _ (List.mem_map.mpr ⟨p,List.mem_of_getElem? e1,rfl⟩)),fun b hb=>⟨(S.own b hb).1,(S.own b hb).2.1.imp (ko b hb),(S.own b hb).2.2⟩,S.nd,
  fun li hl=>⟨(S.tab li hl).1,(S.tab li hl).2.imp fun ps e=>⟨k _ _ e.1 fun q=>(hL _ q).t (List.mem_map.mpr ⟨li,hl,rfl⟩),e.2⟩⟩⟩
theorem Sat.keep{s:Shared}(S:Sat c w μ)(k:Le w.h s.heap):Sat c ⟨w.F,w.a,s⟩ μ:=S.jx (L:=[]) (fun b o e d=>k b o e) fun b m=>nomatch m
theorem Step.of{s:Shared}(g:s.gens=w.s.gens)(o:s.os=w.s.os)(k:∀b o,w.h.get? b=some o->b∉L->s.heap.get? b=some o):Step c L w ⟨w.F,w.a,s⟩:=
 ⟨g,o,Le.rfl,fun b l d=>id,lD,fun b o e d d hb=>k b o e hb,fun b hb q=>hb.imp fun o e=>k b o e q⟩
theorem Step.keeps{s:Shared}(g:s.gens=w.s.gens)(o:s.os=w.s.os)(k:Le w.h s.heap):Step c L w ⟨w.F,w.a,s⟩:=⟨g,o,Le.rfl,fun b l d=>id,lD,fun b o e d d d=>k b o e,fun b l d=>k.al l⟩
theorem jQ{h h':Heap}{a:Addr}(x:Heap.SameBut a h h'):∀b o,h.get? b=some o->b∉[a]->h'.get? b=some o:=fun b o e hb=>(x.2 b fun q=>hb (q▸.head _)).trans e
end
end
section
variable{c:Cx}{L L':List Addr}{w w' w'':Wd}{μ μ':Mu}{s:Shared}{F F':Heap}{ads new:lI}
theorem jz{T:Addr}{o:Obj}(S:Sat c w μ)(hT:w.h.get? T=some o)(h1:T∉w.a.own)(h2:T∉c.tb):
  ∃F',F'.get? T=some o/\Le w.F F'/\(∀b,b≠T->w.F.get? b=none->F'.get? b=none)/\Sat c ⟨F',w.a,w.s⟩ μ:=by
 have g:Le w.F (only w.h (fun a=>(∃o',w.F.get? a=some o')\/a=T)):=fun b o' e=>eJ.mpr ⟨.inl ⟨o',e⟩,S.sub _ _ e⟩
 have dn:∀b,b≠T->w.F.get? b=none->(only w.h (fun a=>(∃o',w.F.get? a=some o')\/a=T)).get? b=none:=fun b hb e=>
  Option.eq_none_iff_forall_ne_some.mpr fun o' q=>(eJ.mp q).1.elim (fun q=>q.elim fun o'' e'=>nomatch e.symm.trans e') hb
 exact⟨_,eJ.mpr ⟨.inr rfl,hT⟩,g,dn,S.base.trans g,fun b o' e=>(eJ.mp e).2,S.len,fun i p m e1 e2=>(S.mo i p m e1 e2).grow g .rfl,fun b hb=>⟨dn b (fun q=>h1 (q▸hb)) (S.own b hb).1,(S.own b hb).2⟩,S.nd,
  fun li hl=>⟨dn _ (fun q=>h2 (q▸List.mem_map.mpr ⟨li,hl,rfl⟩)) (S.tab li hl).1,(S.tab li hl).2.imp fun ps e=>⟨e.1,e.2.imp id fun q=>q.imp fun b q=>⟨q.1,q.2.keeps g⟩⟩⟩⟩
theorem Step.fast{T:Addr}(x:Step c L w w')(g:Le w'.F F')(d:∀b,b≠T->w'.F.get? b=none->F'.get? b=none)(hT:w.h.get? T=none):Step c L w ⟨F',w'.a,w'.s⟩:=
 ⟨x.g,x.o,x.grow.trans g,fun b hb k e=>d b (fun q=>Al.ne hb (q▸hT)) (x.Mq b hb k e),x.pre,x.keep,x.live⟩
theorem cg(h:Heap):h.get? h.objs.size=none:=fh (TG _)
theorem j7(S:Sat c w μ)(o:Obj)(ho:o.isFreed=false):∃F',F'.get? w.h.objs.size=some o/\Step c L w ⟨F',w.a,{w.s with heap:=w.h.push o}⟩/\Sat c ⟨F',w.a,{w.s with heap:=w.h.push o}⟩ μ:=by
 have n:=S.new (cg _)
 obtain⟨F',f1,f2,f3,S'⟩:=jz (S.keep (s:={w.s with heap:=w.h.push o}) (Le.push o)) (Heap.get?_push_size w.h ho) n.2.1 n.2.2
 exact⟨F',f1,(Step.keeps (s:={w.s with heap:=w.h.push o}) rfl rfl (Le.push o)).fast f2 f3 (cg _),S'⟩
theorem fw{α:Type}{l:List α}{a:α}:(l++[a])[l.length]? =some a:=by rw[List.getElem?_append_right (TG _),Nat.sub_self];rfl
theorem CO{α:Type}{l:List α}{a b:α}{i:Nat}(e:(l++[a])[i]? =some b):l[i]? =some b\/i=l.length/\b=a:=by
 by_cases h:i<l.length
 ·exact .inl ((List.getElem?_append_left h).symm.trans e)
 ·rw[List.getElem?_append_right (Nat.le_of_not_lt h)] at e
  have z:=(List.getElem?_eq_some_iff.mp e).1
  have z':i-l.length=0:=Nat.lt_one_iff.mp z
  rw[z'] at e
  exact .inr ⟨Nat.le_antisymm (Nat.sub_eq_zero_iff_le.mp z') (Nat.le_of_not_lt h),(Option.some.inj e).symm⟩
theorem q9{T p:Addr}{m:aI}(S:Sat c w μ)(hT:Pv c w T)(hl:∃o,w.h.get? T=some o)(hm:MO c w.F (w.a++[(p,T)]) w.h (p,T) m):Sat c ⟨w.F,w.a++[(p,T)],w.s⟩ (μ++[m]):=by
 refine⟨S.base,S.sub,by rw[TM,TM,S.len];rfl,fun i q m' e1 e2=>?_,fun b hb=>(fV.mp hb).elim (S.own b) fun q=>List.mem_singleton.mp q▸⟨hT.f,hl,hT.t⟩,?_,S.tab⟩
 ·rcases CO e1 with e1|⟨h1,rfl⟩
  ·rcases CO e2 with e2|⟨h2,rfl⟩
   ·exact(S.mo i q m' e1 e2).grow Le.rfl (.app _)
   ·exact absurd (List.getElem?_eq_some_iff.mp e1).1 (Nat.not_lt.mpr (Nat.le_of_eq (h2.trans S.len.symm).symm))
  ·rw[h1,S.len,fw] at e2
   exact Option.some.inj e2▸hm
 ·show((w.a++[(p,T)]).map (·.2)).Nodup
  rw[List.map_append]
  exact List.nodup_append.mpr ⟨S.nd,List.nodup_cons.mpr ⟨nofun,List.nodup_nil⟩,fun a ha b hb e=>hT.o ((show a=T from e.trans (List.mem_singleton.mp hb))▸ha)⟩
theorem Step.own{T p:Addr}(x:Step c L w w')(hT:w.h.get? T=none):Step c L w ⟨w'.F,w'.a++[(p,T)],w'.s⟩:=
 ⟨x.g,x.o,x.grow,x.Mq,x.pre.elim fun n e=>⟨n++[(p,T)],by rw[<-TP,<-e.1],fun b hb=>(fV.mp hb).elim (e.2 b) fun q=>.inl (List.mem_singleton.mp q▸hT)⟩,x.keep,x.live⟩
theorem Sat.loc(S:Sat c w μ){T p:Addr}:CV c w.F (w.a++[(p,T)]) (.loc μ.length) (.ref p):=⟨p,T,rfl,S.len▸fw⟩
theorem gu(S:Sat c w μ)(k:Le w.h s.heap){T:Addr}(hT:w.h.get? T=none)(hl:Al s.heap T):Pv c ⟨w.F,w.a,s⟩ T:=⟨(S.new hT).1,(S.new hT).2.1,(S.new hT).2.2,hl⟩
theorem set_own{k:Nat}{p:Addr×Addr}{m:aI}(S:Sat c w μ)(e:w.a[k]? =some p)(hs:Heap.SameBut p.2 w.h s.heap)(hl:∃o,s.heap.get? p.2=some o)(hm:MO c w.F w.a s.heap p m)(g:s.gens=w.s.gens)(o:s.os=w.s.os):
  Step c L w ⟨w.F,w.a,s⟩/\Sat c ⟨w.F,w.a,s⟩ (μ.set k m):=by
 have hp:p.2∈w.a.own:=List.mem_map.mpr ⟨p,List.mem_of_getElem? e,rfl⟩
 have kp:∀b o,w.h.get? b=some o->b≠p.2->s.heap.get? b=some o:=fun b o e hb=>(hs.2 b hb).trans e
 refine⟨⟨g,o,Le.rfl,fun b l d=>id,lD,fun b o e h1 d d=>kp b o e fun q=>h1 (q▸hp),fun b hb d=>(Classical.em (b=p.2)).elim (fun q=>q▸hl) fun q=>hb.imp fun o e=>kp b o e q⟩,S.base,fun b o q=>kp b o (S.sub _ _ q) fun r=>?_,S.len.trans List.length_set.symm,fun i q m' e1 e2=>?_,fun b hb=>⟨(S.own b hb).1,?_,(S.own b hb).2.2⟩,S.nd,
  fun li hl=>⟨(S.tab li hl).1,(S.tab li hl).2.imp fun ps q=>⟨kp _ _ q.1 fun r=>(S.own _ hp).2.2 (r▸List.mem_map.mpr ⟨li,hl,rfl⟩),q.2⟩⟩⟩
 ·exact(r▸Option.eq_none_iff_forall_ne_some.mp (S.own _ hp).1 o) q
 ·by_cases hi:k=i
  ·cases hi
   cases e.symm.trans e1
   rw[List.getElem?_set_self (S.len▸(List.getElem?_eq_some_iff.mp e).1)] at e2
   exact Option.some.inj e2▸hm
  ·rw[List.getElem?_set_ne hi] at e2
   refine(S.mo i q m' e1 e2).at fun o q'=>kp _ _ q' fun r=>hi ?_
   have h1:w.a.own[k]? =some p.2:=by rw[lI.own,List.getElem?_map,e];rfl
   have h2:w.a.own[i]? =some q.2:=by rw[lI.own,List.getElem?_map,e1];rfl
   exact(List.getElem?_inj (List.getElem?_eq_some_iff.mp h1).1 S.nd).mp (h1.trans (r▸h2.symm))
 ·by_cases hb':b=p.2
  ·exact hb'▸hl
  ·exact(S.own b hb).2.1.imp fun o q=>kp _ _ q hb'
theorem Bz{k:Nat}(hk:k<ads.length):(ads++new)[k]? =ads[k]? :=List.getElem?_append_left hk
theorem CV.cl(v:V):∀u,CV c F ads v u->VC ads.length v:=
 V.rec (motive_1:=fun v=>∀u,CV c F ads v u->VC ads.length v) (motive_2:=fun l=>∀u,fC c F ads l u->OI ads.length l) (fun x u e=>trivial) (fun i u e=>e.elim fun a e=>e.elim fun o e=>(List.getElem?_eq_some_iff.mp e.2).1) (fun x u e=>trivial) (fun x u e=>trivial) (fun u e=>trivial) (fun u e=>trivial)
  (fun j cs u e k hk=>e.elim fun a e=>e.elim fun vz e=>e.elim fun b e=>e.elim fun sc e=>(List.getElem_of_mem hk).elim fun i h=>h.elim fun h1 h2=>by
   have:=e.2.2.2.len
   obtain⟨k',h3,b',h4,h5⟩:=e.2.2.2.get (i:=i) (List.getElem?_eq_getElem (this▸h1))
   rw[List.getElem?_eq_getElem h1,h2] at h3
   cases h3
   exact(List.getElem?_eq_some_iff.mp h4).1)
  (fun l h u e=>(hZ.mp e).elim fun a e=>e.elim fun vs e=>h vs e.2.2) (fun u e=>trivial) (fun v l h t u e=>Exists.elim e fun a e=>e.elim fun us e=>⟨h a e.2.1,t us e.2.2⟩) v
theorem fC.cl(l:List V):∀u,fC c F ads l u->OI ads.length l:=by
 induction l with
 |nil=>exact fun u e=>trivial
 |cons v l ih=>exact fun u e=>Exists.elim e fun a e=>e.elim fun us e=>⟨CV.cl v a e.2.1,ih us e.2.2⟩
theorem CV.cut(v:V):∀u,CV c F (ads++new) v u->VC ads.length v->CV c F ads v u:=
 V.rec (motive_1:=fun v=>∀u,CV c F (ads++new) v u->VC ads.length v->CV c F ads v u) (motive_2:=fun l=>∀u,fC c F (ads++new) l u->OI ads.length l->fC c F ads l u) (fun x u e q=>e) (fun i u e q=>e.imp fun a e=>e.imp fun o e=>⟨e.1,(Bz q).symm.trans e.2⟩) (fun x u e q=>e) (fun x u e q=>e) (fun u e q=>e) (fun u e q=>e)
  (fun j cs u e q=>AZ.mono Le.rfl (fun i hi p e=>(Bz (q i hi)).symm.trans e) e)
  (fun l h u e q=>hZ.mpr ((hZ.mp e).imp fun a e=>e.imp fun vs e=>⟨e.1,e.2.1,h vs e.2.2 q⟩)) (fun u e q=>e) (fun v l h t u e q=>Exists.imp (fun a e=>Exists.imp (fun us e=>⟨e.1,h a e.2.1 q.1,t us e.2.2 q.2⟩) e) e) v
theorem fC.cut(l:List V):∀u,fC c F (ads++new) l u->OI ads.length l->fC c F ads l u:=by
 induction l with
 |nil=>exact fun u e q=>e
 |cons v l ih=>exact fun u e q=>Exists.imp (fun a e=>Exists.imp (fun us e=>⟨e.1,CV.cut v a e.2.1 q.1,ih us e.2.2 q.2⟩) e) e
theorem MO.cl{h:Heap}{p:Addr×Addr}{m:aI}(x:MO c F ads h p m):MC ads.length m:=by
 cases m with
 |gV l=>exact x.2.elim fun vs e=>fC.cl l _ e.2
 |cell v=>cases v with
  |none=>exact trivial
  |some v=>exact x.2.elim fun o e=>(e.2 v rfl).elim fun u e=>CV.cl v u e.2
 |_=>exact trivial
theorem MO.cut{h:Heap}{p:Addr×Addr}{m:aI}(x:MO c F (ads++new) h p m)(q:MC ads.length m):MO c F ads h p m:=by
 cases m with
 |gV l=>exact⟨x.1,x.2.imp fun vs e=>⟨e.1,fC.cut l _ e.2 q⟩⟩
 |cell v=>cases v with
  |none=>exact⟨x.1,x.2.imp fun o e=>⟨e.1,fun x q=>nomatch q⟩⟩
  |some v=>exact⟨x.1,x.2.imp fun o e=>⟨e.1,fun x r=>(e.2 x r).imp fun u e=>⟨e.1,CV.cut x u e.2 (Option.some.inj r▸q)⟩⟩⟩
 |_=>exact x
theorem Sat.cl(S:Sat c w μ):Cl μ:=fun k m e=>by
 have hk:k<w.a.length:=S.len▸(List.getElem?_eq_some_iff.mp e).1
 exact S.len▸(S.mo k _ m (List.getElem?_eq_getElem hk) e).cl
theorem Sat.cut(S:Sat c ⟨F,ads++new,s⟩ μ)(q:Cl (μ.take ads.length)):Sat c ⟨F,ads,s⟩ (μ.take ads.length):=by
 have hl:(μ.take ads.length).length=ads.length:=by
  rw[List.length_take]
  exact Nat.min_eq_left (S.len▸TM▸Nat.le_add_right _ _)
 have nd:=S.nd
 refine⟨S.base,S.sub,hl.symm,fun k p m e1 e2=>?_,fun b hb=>S.own b (fV.mpr (.inl hb)),?_,S.tab⟩
 ·have e2':μ[k]? =some m:=(List.getElem?_take_of_lt (List.getElem?_eq_some_iff.mp e1).1).symm.trans e2
  exact(S.mo k p m (Pr.app _ _ _ e1) e2').cut (hl▸q k m e2)
 ·rw[lI.own,List.map_append] at nd
  exact(List.nodup_append.mp nd).1
theorem Step.Ot(x:Step c L w ⟨F',w.a++new,s⟩):Step c L w ⟨F',w.a,s⟩:=⟨x.g,x.o,x.grow,x.Mq,lD,x.keep,x.live⟩
end
section
structure Bk where
 A:Around
 ct:Ct
 env:Env
structure vp(c:Cx)(n:Nat)(b:Bk):Prop where
 depth:b.A.depth+n<990
 units:b.A.units+12*n<9800
 handled:b.A.handled=none
 kind:b.env.scope.kind=.function
 glob:b.env.globals=mainGlobals
 NZ:b.env.builtins=builtinsNs
 kl:∀x∈b.ct.locs,b.env.kindOf x=some .local
 kc:∀x∈b.ct.cells,b.env.kindOf x=some .cell\/b.env.kindOf x=some .free
 kg:∀x,b.ct.ro.contains x=true->b.env.kindOf x=some .globalImplicit
 nb:∀x,x∈b.ct.locs\/x∈b.ct.cells\/b.ct.ro.contains x=true->x≠Str.ofString "__debug__"/\x≠Str.ofString "__classdict__"
 Q4:b.ct.locs.Nodup
 code:b.ct.code=.none\/b.env.code=b.ct.code
 frame:∃f,b.env.frame=some f
 qual:∀li∈c.zq,b.ct.code=.ref li.c->b.env.qual++Str.ofString "<lambda>"=li.qual
structure zl(c:Cx)(b:Bk)(fr:Fr)(w:Wd):Prop where
 len:fr.vs.length=b.ct.locs.length
 ns:∃m,w.h.Ns b.env.locals m/\∀(i:Nat) x v,b.ct.locs[i]? =some x->fr.vs[i]? =some (some v)->∃u,m x=some u/\CV c w.F w.a v u
 pv:Pv c w b.env.locals
 cells:Z (IC w.a b.env.cells) b.ct.cells fr.cs
structure fk(c:Cx)(n:Nat)(b:Bk)(fr:Fr)(w:Wd)(μ:Mu):Prop where
 s:vp c n b
 d:zl c b fr w
 t:Sat c w μ
def WP(c:Cx)(L:List Addr){α:Type}(A:Around)(t:Sem α)(w:Wd)(Q:α->Wd->Prop):Prop:=
 wA c.M A t (fun x s=>∃w',w'.s=s/\Step c L w w'/\Q x w') w.s
section
variable{c:Cx}{n:Nat}{L L':List Addr}{α β:Type}{A:Around}{w w':Wd}{b:Bk}{fr:Fr}{μ μ':Mu}
theorem zl.step(E:zl c b fr w)(x:Step c L w w')(hL:b.env.locals∉L):zl c b fr w':=
 ⟨E.len,E.ns.imp fun m q=>⟨q.1.elim fun o q'=>q'.elim fun es q'=>q'.elim fun ep q'=>⟨o,es,ep,x.jx E.pv hL q'.1,q'.2⟩,fun i y v h1 h2=>(q.2 i y v h1 h2).imp fun u q=>⟨q.1,x.cv q.2⟩⟩,x.pv hL E.pv,IC.mono (fun i m=>x.pr i) E.cells⟩
theorem fk.step(X:fk c n b fr w μ)(x:Step c [] w w')(S:Sat c w' μ'):fk c n b fr w' μ':=⟨X.s,X.d.step x (fun h=>nomatch h),S⟩
theorem WP.mono{t:Sem α}{Q Q':α->Wd->Prop}(h:WP c L A t w Q)(k:∀a w',Step c L w w'->Q a w'->Q' a w'):WP c L A t w Q':=aG h fun a s q=>q.imp fun w' q=>⟨q.1,q.2.1,k a w' q.2.1 q.2.2⟩
theorem WP.bind{t:Sem α}{f:α->Sem β}{P:α->Wd->Prop}{Q:β->Wd->Prop}(h:WP c L A t w P)(k:∀a w',Step c L w w'->P a w'->WP c L A (f a) w' Q):WP c L A (t>>=f) w Q:=
 aj (aG h fun a s q=>q.elim fun w' q=>q.1▸aG (k a w' q.2.1 q.2.2) fun b s q'=>q'.imp fun w'' q'=>⟨q'.1,q.2.1.trans q'.2.1,q'.2.2⟩)
theorem WP.fO{t:Sem α}{f:α->Sem β}{P:α->Wd->Prop}{Q:β->Wd->Prop}(h:WP c [] A t w P)(k:∀a w',Step c [] w w'->P a w'->WP c L A (f a) w' Q):WP c L A (t>>=f) w Q:=
 aj (aG h fun a s q=>q.elim fun w' q=>q.1▸aG (k a w' q.2.1 q.2.2) fun b s q'=>q'.imp fun w'' q'=>⟨q'.1,q.2.1.up.trans q'.2.1,q'.2.2⟩)
theorem WP.pure{a:α}{Q:α->Wd->Prop}(h:Q a w):WP c L A (pure a) w Q:=aH ⟨w,rfl,.rfl,h⟩
theorem WP.CC{a:α}{f:α->Sem β}{Q:β->Wd->Prop}(h:WP c L A (f a) w Q):WP c L A (Pure.pure a>>=f) w Q:=aj (aH h)
theorem WP.bQ{p:Pos}{f:Unit->Sem β}{Q:β->Wd->Prop}(h:WP c L A (f ()) w Q):WP c L A (standAt p>>=f) w Q:=aj (eM h)
theorem WP.hold{vs:List Value}{t:Sem α}{Q:α->Wd->Prop}(h:WP c L A t w Q):WP c L A (holding vs t) w Q:=bj h
theorem WP.operate{vs:List Value}{t:Sem Value}{Q:Value->Wd->Prop}(h:WP c L A t w Q):WP c L A (operate vs t) w Q:=zM h
theorem WP.release{vs ks:List Value}{Q:Unit->Wd->Prop}(h:Q () w):WP c L A (release vs ks) w Q:=sy ⟨w,rfl,.rfl,h⟩
theorem WP.onRaise{t:Sem α}{k:Value->Sem Unit}{Q:α->Wd->Prop}(h:WP c L A t w Q):WP c L A (t.onRaise k) w Q:=d0 h
theorem WP.same{t:Sem α}{Q:α->Wd->Prop}(h:wpAny c.M A t (fun a s=>s.heap=w.h/\s.gens=w.s.gens/\s.os=w.s.os/\Q a ⟨w.F,w.a,s⟩) xd w.s):WP c L A t w Q:=
 ij (wpAny_mono h (fun a s q=>⟨⟨w.F,w.a,s⟩,rfl,.keeps q.2.1 q.2.2.1 fun b o e=>q.1▸e,q.2.2.2⟩) fun e s=>id)
theorem WP.N3{t:Sem α}{Q:α->Wd->Prop}(S:Sat c w μ)(hL:∀b∈L,Pv c w b)(h:wpAny c.M A t (fun a s=>s.gens=w.s.gens/\s.os=w.s.os/\(∀b o,w.h.get? b=some o->b∉L->s.heap.get? b=some o)/\(Step c L w ⟨w.F,w.a,s⟩->Sat c ⟨w.F,w.a,s⟩ μ->Q a ⟨w.F,w.a,s⟩)) xd w.s):WP c L A t w Q:=
 ij (wpAny_mono h (fun a s q=>have x:=Step.of q.1 q.2.1 q.2.2.1;⟨⟨w.F,w.a,s⟩,rfl,x,q.2.2.2 x (S.jx q.2.2.1 hL)⟩) fun e s=>id)
theorem WP.P_{t:Sem α}{Q:α->Wd->Prop}(S:Sat c w μ)(h:wpAny c.M A t (fun a s=>s.gens=w.s.gens/\s.os=w.s.os/\Le w.h s.heap/\(Step c L w ⟨w.F,w.a,s⟩->Sat c ⟨w.F,w.a,s⟩ μ->Q a ⟨w.F,w.a,s⟩)) xd w.s):WP c L A t w Q:=
 ij (wpAny_mono h (fun a s q=>have x:=Step.keeps q.1 q.2.1 q.2.2.1;⟨⟨w.F,w.a,s⟩,rfl,x,q.2.2.2 x (S.keep q.2.2.1)⟩) fun e s=>id)
def PK(c:Cx)(K:V->Mu->Prop)(u:Value)(w:Wd):Prop:=∃v μ,Sat c w μ/\CV c w.F w.a v u/\K v μ
def PB(c:Cx)(K:Bool->Mu->Prop)(u:Bool)(w:Wd):Prop:=∃μ,Sat c w μ/\K u μ
def R9(c:Cx)(K:List V->Mu->Prop)(us:List Value)(w:Wd):Prop:=∃vs μ,Sat c w μ/\fC c w.F w.a vs us/\K vs μ
theorem WP.bE{t:Sem Value}{f:Value->Sem β}{K:V->Mu->Prop}{Q:β->Wd->Prop}(X:fk c n b fr w μ)(h:WP c [] A t w (PK c K))(k:∀u w' v μ',Step c [] w w'->fk c n b fr w' μ'->CV c w'.F w'.a v u->K v μ'->WP c L A (f u) w' Q):WP c L A (t>>=f) w Q:=
 .fO h fun u w' x q=>q.elim fun v q=>q.elim fun μ' q=>k u w' v μ' x (X.step x q.1) q.2.1 q.2.2
theorem WP.bB{t:Sem Bool}{f:Bool->Sem β}{K:Bool->Mu->Prop}{Q:β->Wd->Prop}(X:fk c n b fr w μ)(h:WP c [] A t w (PB c K))(k:∀u w' μ',Step c [] w w'->fk c n b fr w' μ'->K u μ'->WP c L A (f u) w' Q):WP c L A (t>>=f) w Q:=
 .fO h fun u w' x q=>q.elim fun μ' q=>k u w' μ' x (X.step x q.1) q.2
theorem WP.bL{t:Sem (List Value)}{f:List Value->Sem β}{K:List V->Mu->Prop}{Q:β->Wd->Prop}(X:fk c n b fr w μ)(h:WP c [] A t w (R9 c K))(k:∀u w' v μ',Step c [] w w'->fk c n b fr w' μ'->fC c w'.F w'.a v u->K v μ'->WP c L A (f u) w' Q):WP c L A (t>>=f) w Q:=
 .fO h fun u w' x q=>q.elim fun v q=>q.elim fun μ' q=>k u w' v μ' x (X.step x q.1) q.2.1 q.2.2
theorem WP.pK{K:V->Mu->Prop}{v:V}{u:Value}(S:Sat c w μ)(C:CV c w.F w.a v u)(q:K v μ):WP c L A (Pure.pure u) w (PK c K):=.pure ⟨v,μ,S,C,q⟩
theorem PK.of{K:V->Mu->Prop}{v:V}{u:Value}(S:Sat c w μ)(C:CV c w.F w.a v u)(q:K v μ):PK c K u w:=⟨v,μ,S,C,q⟩
theorem WP.val{t:Sem Value}{K:V->Mu->Prop}{v:V}(S:Sat c w μ)(q:K v μ)(h:wpAny c.M A t (fun u s=>s.heap=w.h/\s.gens=w.s.gens/\s.os=w.s.os/\CV c w.F w.a v u) xd w.s):WP c L A t w (PK c K):=
 .same (wpAny_mono h (fun u s e=>⟨e.1,e.2.1,e.2.2.1,v,μ,S.keep (e.1▸Le.rfl),e.2.2.2,q⟩) fun e s=>id)
theorem WP.ML{t:Sem Value}{K:V->Mu->Prop}{v:V}(S:Sat c w μ)(q:K v μ)(h:wpAny c.M A t (fun u s=>s.gens=w.s.gens/\s.os=w.s.os/\Le w.h s.heap/\CV c w.F w.a v u) xd w.s):WP c L A t w (PK c K):=
 .P_ S (wpAny_mono h (fun u s e=>⟨e.1,e.2.1,e.2.2.1,fun x S'=>⟨v,μ,S',e.2.2.2,q⟩⟩) fun e s=>id)
theorem WP.truthy{x:Bool}{Q:Bool->Wd->Prop}(h:Q x w):WP c L A (truthy (.bool x)) w Q:=.same (wpAny_truthy_bool ⟨rfl,rfl,rfl,h⟩)
end
end
structure qz(K:Frag)(C:Addr):Prop where
 ga:findIn K (.ref C) "__getattribute__"=some (some (.builtin "object.__getattribute__"))
 set:findIn K (.ref C) "__setattr__"=some (some (.builtin "object.__setattr__"))
 over:plainOver K C=true
 hd:hasDictIn K C=true
structure jA(K:Frag)(C:Addr)(x:Str):Prop where
 find:findIn K (.ref C) x=some none
 take:takerIn K C x=some none
noncomputable def FC:Mt->Option Str
 |.append=>some (Str.ofString "append")|.join=>some (Str.ofString "join")|.split=>some (Str.ofString "split")|.lower=>some (Str.ofString "lower")
 |.replace=>some (Str.ofString "replace")|.find=>some (Str.ofString "find")|.own i=>none
noncomputable def JH(c:Cx):D->Value
 |.none=>.type "NoneType"|.bool b=>.type "bool"|.int i=>.type "int"|.str l=>.type "str"|.bytes l=>.type "bytes"|.tuple l=>.type "tuple"|.list l=>.type "list"|.atom l=>.ref c.aC
noncomputable def PM(c:Cx):N1->Value
 |.int=>.type "int"|.bytes=>.type "bytes"|.cR=>.none|.atom=>.ref c.aC
noncomputable def srcOf(ps names:List Str):List (Option Nat):=names.map fun x=>ps.findIdx? (·==x)
structure RF where
 fd:FuncData
 ps:List Str
 as:List Arg
 df:List Expr
 body:List Stmt
 dv:List Value
def Qa(c:Cx)(fd:FuncData)(dv:List Value):Prop:=(dv=[]/\fd.defaults=.none)\/∃T o n,fd.defaults=.ref T/\c.hB.get? T=some o/\o.data=.seq dv.toArray n
structure KZ(c:Cx)(a:Addr)(f:Fn)(i:RF):Prop where
 obj:∃o,c.hB.get? a=some o/\o.data=.func i.fd
 params:i.fd.params=⟨[],i.as,none,[],[],none,i.df⟩
 names:i.as.map (·.arg)=i.ps
 nd:i.ps.Nodup
 np:f.np=i.ps.length
 defs:fC c c.hB [] f.defs i.dv/\Qa c i.fd i.dv
 Oi:f.defs.length<=f.np
 sc:tc i.fd.scope=true
 body:i.fd.body=.stmts i.body
 comp:FP c.g f.body (ji i.fd.scope i.fd.code) i.body=true
 vz:i.fd.closure=[]
 glob:i.fd.globals=mainGlobals
 NZ:i.fd.builtins=builtinsNs
 code:c.hB.CodeRec i.fd.code i.fd.qualname
 Nj:pick .free i.fd.scope=[]
 DK:f.DK=srcOf i.ps (pick .local i.fd.scope)
 m_:f.m_=srcOf i.ps (pick .cell i.fd.scope)
 qual:∀li∈c.zq,i.fd.code=.ref li.c->(i.fd.qualname++Str.ofString ".<locals>.")++Str.ofString "<lambda>"=li.qual
 cover:∀x∈i.ps,x∈pick .local i.fd.scope\/x∈pick .cell i.fd.scope
abbrev jK:Str:=Str.ofString "self"
structure wc(c:Cx)(C:Addr)(xs:List Str)(dv:List Value)(f:Addr)(fd:FuncData):Prop where
 made:makesIn c.K C=true
 find:findIn c.K (.ref C) "__init__"=some (some (.ref f))
 type:typeIn c.K (.ref f)=some (.type "function")
 obj:∃o,c.hB.get? f=some o/\o.data=.func fd
 params:∃as df,fd.params=⟨[],as,none,[],[],none,df⟩/\as.map (·.arg)=jK::xs
 SK:Qa c fd dv
 body:∃ps:List (Str×Pos×Pos×Pos×Pos),ps.map (·.1)=xs/\fd.body=.stmts (ps.map fun p=>.Assign [.Attribute (.Name jK p.2.1) p.1 p.2.2.1] (.Name p.1 p.2.2.2.1) p.2.2.2.2)
 loc:∀x∈jK::xs,fd.scope.names.lookup x=some .local
 cell:∀y∈fd.scope.names,y.2≠.cell
 kind:fd.scope.kind=.function
 co:fd.scope.isCoroutine=false
 ge:fd.scope.isGenerator=false
 code:c.hB.CodeRec fd.code fd.qualname
 attr:∀x∈xs,jA c.K C x/\(x==Str.ofString "__debug__")=false
structure Good(c:Cx):Prop where
 name:∀x v,c.g.name x v=true->(∃u,nsIn c.K mainGlobals x=some (some u)/\CV c c.hB [] v u)\/(∃b,nsIn c.K mainGlobals x=some none/\bootBuiltins x=some (ER b)/\v=.bi b/\x≠"__name__")
 KX:c.K.In c.hB
 top:∃p loose mean mg mb,Top p loose mean mg mb c.hB
 wire:qz c.K c.wC
 atom:qz c.K c.aC
 wd:jA c.K c.wC (Str.ofString "data")
 wa:jA c.K c.wC (Str.ofString "at")
 at_:jA c.K c.aC (Str.ofString "text")
 bm:∀x m y,c.g.G5 x m=true->FC m=some y->x=y
 ga:findIn c.K (.ref c.wC) "__getattr__"=some none
 own:∀x i,c.g.G5 x (.own i)=true->∃a,c.fa[i]? =some a/\findIn c.K (.ref c.wC) x=some (some (.ref a))/\typeIn c.K (.ref a)=some (.type "function")/\x≠Str.ofString "data"/\x≠Str.ofString "at"
 fn:∀(i:Nat) a,c.fa[i]? =some a->∃o fd,c.hB.get? a=some o/\o.data=.func fd
 kA:keepIn c.K (.ref c.aC)=true
 kW:keepIn c.K (.ref c.wC)=true
 lam:∀code pos,c.g.lam code pos=true->∃li∈c.zq,code=.ref li.c/\pos.line=li.pos.line/\pos.col=li.pos.col
 Pm:∀j ct e,c.g.IH j ct e=true->∃b,LT[j]? =some b/\cE c.g b ct e=true
 hd:∀li∈c.zq,CodeHd c.hB li.c li.P
 nd:(c.zq.map (·.P)).Nodup
 one:∀(x:D) (k:N1),k≠.cR->kitOne c.K (JH c x) (PM c k)=some (x.isA k)
 two:∀(x:D),kitAny c.K (JH c x) [.type "list",.type "tuple"]=some (x.isA .cR)
 hg:plainGet c.K c.aC "__class__"=true
 ha:findIn c.K (.ref c.aC) "__class__"=some (some (.builtin "object.__class__"))
 hn:specialIn c.K (.builtin "object.__class__") "__get__"=some (some (.builtin "getset_descriptor.__get__"))
 ht:takesIn c.K (.builtin "object.__class__")=some true
 hm:mroIn c.K c.aC (.type "object")=some true
 rg:nsIn c.K mainGlobals (Str.ofString "range")=some none
 rb:bootBuiltins (Str.ofString "range")=some (.type "range")
 eg:nsIn c.K mainGlobals (Str.ofString "enumerate")=some none
 eb:bootBuiltins (Str.ofString "enumerate")=some (.type "enumerate")
 fns:∀(i:Nat) f,PT[i]? =some f->∃a j,c.fa[i]? =some a/\KZ c a f j
 iA:∃f fd,wc c c.aC [Str.ofString "text"] [] f fd
 iW:∃f fd t,wc c c.wC [Str.ofString "data",Str.ofString "at"] [.int 0 t] f fd
def Iter(c:Cx)(tt:Bool)(g:Option (Nat×List D))(I:Addr)(pv:List Addr):List V->Wd->Prop
 |[],w=>∀w' L μ A,Step c L w w'->(∀b∈pv,b∉L)->Sat c w' μ->Ef g μ->A.handled=none->WP c pv A (pyNext (.ref I)) w' (fun r w1=>r=none/\Sat c w1 μ)
 |x::xs,w=>∀w' L μ A te,Step c L w w'->(∀b∈pv,b∉L)->Sat c w' μ->Ef g μ->A.handled=none->(tt=true->tE te (fun l=>true)=true)->
  WP c pv A (pyNext (.ref I)) w' (fun r w1=>∃v,r=some v/\WP c pv A (letOwnedTupleGo te (.ref I) v) w1 (fun d w2=>Sat c w2 μ/\CV c w2.F w2.a x v/\Iter c tt g I pv xs w2))
structure ru(A:Around)(n:Nat):Prop where
 depth:A.depth+n<990
 units:A.units+12*n<9800
 handled:A.handled=none
def rO(c:Cx)(u:Value)(h:Heap):Prop:=∃k,(k=Keeper.frame\/k=Keeper.machine\/k=Keeper.boundFrame)/\Looks c.M h (keeperOf u) k
def ae(n i:Nat)(l:List V)(μ:Mu)(Q:V->Mu->Prop):Prop:=∀c A w us a,Good c->c.fa[i]? =some a->ru A n->Sat c w μ->fC c w.F w.a l us->WP c [] A (call (.ref a) us) w (PK c Q)
def Ow(n:Nat)(f:V)(l:List V)(μ:Mu)(Q:V->Mu->Prop):Prop:=∀c A w us u,Good c->ru A n->Sat c w μ->CV c w.F w.a f u->fC c w.F w.a l us->rO c u w.h/\WP c [] A (call u us) w (PK c Q)
def Tq(c:Cx)(w:Wd)(f:Flow):Fl->Prop
 |.next=>f=.next
 |.cont=>f=.cont
 |.ret v=>∃u,f=.ret u/\CV c w.F w.a v u
def PX(c:Cx)(n:Nat)(b:Bk)(K:Fl->Fr->Mu->Prop)(f:Flow)(w:Wd):Prop:=∃fl fr μ,Tq c w f fl/\fk c n b fr w μ/\K fl fr μ
def RC(c:Cx)(L:List Addr)(w:Wd)(P:Flow->Wd->Prop)(f:Flow)(s:Shared):Prop:=∃w',w'.s=s/\Step c L w w'/\P f w'
def wW(n:Nat)(t:Ts)(l:List St)(fr:Fr)(μ:Mu)(Q:Fl->Fr->Mu->Prop):Prop:=∀c e es b w,Good c->cT c.g t b.ct e=true->FP c.g l b.ct es=true->fk c n b fr w μ->cA c.M b.A (.whileLoop e es [] b.env) (RC c [b.env.locals] w (PX c n b Q)) w.s
def wF(n:Nat)(t:Tg)(items:List V)(g:Option (Nat×List D))(l:List St)(fr:Fr)(μ:Mu)(Q:Fl->Fr->Mu->Prop):Prop:=∀c e es b w tt I pv,Good c->cG c.g t b.ct e=true->FP c.g l b.ct es=true->(tt=true->tE e (fun l=>true)=true)->fk c n b fr w μ->b.env.locals∉pv->
 Iter c tt g I pv items w->cA c.M b.A (.forLoop e (.ref I) es [] b.env) (RC c (b.env.locals::pv) w (PX c n b Q)) w.s
structure Acc(c:Cx)(b:Bk)(w:Wd)(T:Addr)(pv:List Addr)(ys:List Value)(ds:List D):Prop where
 l:w.h.PlainList T ys.toArray
 d:jm c w.F ds ys
 p:Pv c w T
 v:T∉pv
 e:T≠b.env.locals
def wC(n:Nat)(elt:Ex)(tg:Tg)(ifs:List Ts)(items:List V)(g:Option (Nat×List D))(fr:Fr)(μ:Mu)(Q:List D->Mu->Prop):Prop:=∀c te ee ie es sc pos b w tt I pv T ys ds,Good c->cE c.g elt b.ct ee=true->cG c.g tg b.ct te=true->LF c.g ifs b.ct es=true->(tt=true->tE te (fun l=>true)=true)->fk c n b fr w μ->b.env.locals∉pv->
 Iter c tt g I pv items w->Acc c b w T pv ys ds->ys.length+items.length<=lim->cA c.M b.A (.compLoop (.ListComp ee [⟨te,ie,es,0⟩] sc pos) 0 (.ref I) (.ref T) b.env) (RC c (b.env.locals::T::pv) w fun f w'=>∃zs es μ',Sat c w' μ'/\Acc c b w' T pv zs (ds++es)/\((∃m,w'.h.Ns b.env.locals m)/\Pv c w' b.env.locals)/\Q es μ') w.s
section
set_option backward.match.sparseCases false
abbrev KV:=V->Mu->Prop
abbrev KE:=Mu->KV->Prop
abbrev KL:=List V->Mu->Prop
abbrev KB:=Bool->Mu->Prop
abbrev KO:=Option Int->Mu->Prop
abbrev KI:=List V->Option (Nat×List D)->Mu->Prop
abbrev KF:=Fr->Mu->Prop
abbrev KS:=Fl->Fr->Mu->Prop
abbrev KD:=List D->Mu->Prop
def F1{α:Type}(a:α):Prop:=False
def F2{α β:Type}(a:α)(b:β):Prop:=False
def pd(k0:Prop)(k1:Bool->Prop)(k2:Int->Prop)(k3:List Nat->Prop)(k4:List UInt8->Prop)(k5 k6:List D->Prop)(k7:List Nat->Prop)(y:D):Prop:=match y with
 |.none=>k0|.bool b=>k1 b|.int i=>k2 i|.str l=>k3 l|.bytes l=>k4 l|.tuple l=>k5 l|.list l=>k6 l|.atom l=>k7 l
@[elab_as_elim]theorem cJ{k0:Prop}{k1:Bool->Prop}{k2:Int->Prop}{k3:List Nat->Prop}{k4:List UInt8->Prop}{k5 k6:List D->Prop}{k7:List Nat->Prop}{P:D->Prop}(y:D)(f0:k0->P .none)(f1:∀a,k1 a->P (.bool a))(f2:∀a,k2 a->P (.int a))(f3:∀a,k3 a->P (.str a))(f4:∀a,k4 a->P (.bytes a))(f5:∀a,k5 a->P (.tuple a))(f6:∀a,k6 a->P (.list a))(f7:∀a,k7 a->P (.atom a))(h:pd k0 k1 k2 k3 k4 k5 k6 k7 y):P y:=by
 revert h
 cases y with
 |none=>exact f0|bool a=>exact f1 a|int a=>exact f2 a|str a=>exact f3 a|bytes a=>exact f4 a|tuple a=>exact f5 a|list a=>exact f6 a|atom a=>exact f7 a
def pv(k0:D->Prop)(k1 k2:Nat->Prop)(k3:B->Prop)(k4 k5:Prop)(k6:Nat->List Nat->Prop)(k7:List V->Prop)(y:V):Prop:=match y with
 |.d x=>k0 x|.loc k=>k1 k|.fn i=>k2 i|.bi b=>k3 b|.lU=>k4|.tS=>k5|.lam j cs=>k6 j cs|.tup l=>k7 l
@[elab_as_elim]theorem mZ{k0:D->Prop}{k1 k2:Nat->Prop}{k3:B->Prop}{k4 k5:Prop}{k6:Nat->List Nat->Prop}{k7:List V->Prop}{P:V->Prop}(y:V)(f0:∀a,k0 a->P (.d a))(f1:∀a,k1 a->P (.loc a))(f2:∀a,k2 a->P (.fn a))(f3:∀a,k3 a->P (.bi a))(f4:k4->P .lU)(f5:k5->P .tS)(f6:∀a b,k6 a b->P (.lam a b))(f7:∀a,k7 a->P (.tup a))(h:pv k0 k1 k2 k3 k4 k5 k6 k7 y):P y:=by
 revert h
 cases y with
 |d a=>exact f0 a|loc a=>exact f1 a|fn a=>exact f2 a|bi a=>exact f3 a|lU=>exact f4|tS=>exact f5|lam a b=>exact f6 a b|tup a=>exact f7 a
def pm(k0:List D->Prop)(k1:List V->Prop)(k2:List UInt8->Prop)(k3:List UInt8->Int->Prop)(k4:Option V->Prop)(m:aI):Prop:=match m with
 |.list l=>k0 l|.gV l=>k1 l|.eX l=>k2 l|.wire d i=>k3 d i|.cell v=>k4 v|.dead=>False
@[elab_as_elim]theorem lY{k0:List D->Prop}{k1:List V->Prop}{k2:List UInt8->Prop}{k3:List UInt8->Int->Prop}{k4:Option V->Prop}{P:aI->Prop}(m:aI)(f0:∀a,k0 a->P (.list a))(f1:∀a,k1 a->P (.gV a))(f2:∀a,k2 a->P (.eX a))(f3:∀a b,k3 a b->P (.wire a b))(f4:∀a,k4 a->P (.cell a))(h:pm k0 k1 k2 k3 k4 m):P m:=by
 revert h
 cases m with
 |list a=>exact f0 a|gV a=>exact f1 a|eX a=>exact f2 a|wire a b=>exact f3 a b|cell a=>exact f4 a|dead=>exact TO
def sD(v:V)(Q:D->Prop):Prop:=pv Q F1 F1 F1 False False F2 F1 v
def ta(v:V)(Q:D->Prop)(QK:Nat->Prop):Prop:=pv Q QK F1 F1 False False F2 F1 v
def qJ(v:V)(Q:Nat->Prop):Prop:=pv F1 Q F1 F1 False False F2 F1 v
def dN(v:D)(Q:Prop):Prop:=pd Q F1 F1 F1 F1 F1 F1 F1 v
def dB(v:D)(Q:Bool->Prop):Prop:=pd False Q F1 F1 F1 F1 F1 F1 v
def dI(v:D)(Q:Int->Prop):Prop:=pd False F1 Q F1 F1 F1 F1 F1 v
def dS(v:D)(Q:List Nat->Prop):Prop:=pd False F1 F1 Q F1 F1 F1 F1 v
def dY(v:D)(Q:List UInt8->Prop):Prop:=pd False F1 F1 F1 Q F1 F1 F1 v
def dT(v:D)(Q:List D->Prop):Prop:=pd False F1 F1 F1 F1 Q F1 F1 v
def dL(v:D)(Q:List D->Prop):Prop:=pd False F1 F1 F1 F1 F1 Q F1 v
section
variable{Q:D->Prop}{QK:Nat->Prop}{QL:List D->Prop}{QS:List Nat->Prop}{QY:List UInt8->Prop}{QI:Int->Prop}{QB:Bool->Prop}{q:Prop}
@[elab_as_elim]theorem aB{P:V->Prop}(v:V)(f:∀a,Q a->P (.d a))(h:sD v Q):P v:=mZ (P:=P) v f (fun a=>TO) (fun a=>TO) (fun a=>TO) TO TO (fun a b=>TO) (fun a=>TO) h
@[elab_as_elim]theorem qh{P:V->Prop}(v:V)(f:∀a,Q a->P (.d a))(g:∀a,QK a->P (.loc a))(h:ta v Q QK):P v:=mZ (P:=P) v f g (fun a=>TO) (fun a=>TO) TO TO (fun a b=>TO) (fun a=>TO) h
@[elab_as_elim]theorem iR{P:V->Prop}(v:V)(f:∀a,QK a->P (.loc a))(h:qJ v QK):P v:=mZ (P:=P) v (fun a=>TO) f (fun a=>TO) (fun a=>TO) TO TO (fun a b=>TO) (fun a=>TO) h
@[elab_as_elim]theorem Lu{R:D->Prop}(d:D)(f:q->R .none)(h:dN d q):R d:=cJ (P:=R) d f (fun a=>TO) (fun a=>TO) (fun a=>TO) (fun a=>TO) (fun a=>TO) (fun a=>TO) (fun a=>TO) h
@[elab_as_elim]theorem LR{R:D->Prop}(d:D)(f:∀a,QB a->R (.bool a))(h:dB d QB):R d:=cJ (P:=R) d TO f (fun a=>TO) (fun a=>TO) (fun a=>TO) (fun a=>TO) (fun a=>TO) (fun a=>TO) h
@[elab_as_elim]theorem bC{R:D->Prop}(d:D)(f:∀a,QI a->R (.int a))(h:dI d QI):R d:=cJ (P:=R) d TO (fun a=>TO) f (fun a=>TO) (fun a=>TO) (fun a=>TO) (fun a=>TO) (fun a=>TO) h
@[elab_as_elim]theorem nk{R:D->Prop}(d:D)(f:∀a,QS a->R (.str a))(h:dS d QS):R d:=cJ (P:=R) d TO (fun a=>TO) (fun a=>TO) f (fun a=>TO) (fun a=>TO) (fun a=>TO) (fun a=>TO) h
@[elab_as_elim]theorem km{R:D->Prop}(d:D)(f:∀a,QY a->R (.bytes a))(h:dY d QY):R d:=cJ (P:=R) d TO (fun a=>TO) (fun a=>TO) (fun a=>TO) f (fun a=>TO) (fun a=>TO) (fun a=>TO) h
@[elab_as_elim]theorem Py{R:D->Prop}(d:D)(f:∀a,QL a->R (.tuple a))(h:dT d QL):R d:=cJ (P:=R) d TO (fun a=>TO) (fun a=>TO) (fun a=>TO) (fun a=>TO) f (fun a=>TO) (fun a=>TO) h
@[elab_as_elim]theorem oP{R:D->Prop}(d:D)(f:∀a,QL a->R (.list a))(h:dL d QL):R d:=cJ (P:=R) d TO (fun a=>TO) (fun a=>TO) (fun a=>TO) (fun a=>TO) (fun a=>TO) f (fun a=>TO) h
end
def on{α:Type}(o:Option α)(Q:α->Prop):Prop:=match o with|some x=>Q x|none=>False
theorem iC{α:Type}{o:Option α}{Q:α->Prop}:on o Q->∃x,o=some x/\Q x:=by cases o with|some x=>exact fun h=>⟨x,rfl,h⟩|none=>exact TO
def nul{α:Type}(l:List α)(Q:Prop):Prop:=match l with|[]=>Q|a::l=>False
@[elab_as_elim]theorem rj{α:Type}{Q:Prop}{P:List α->Prop}(l:List α)(f:Q->P [])(h:nul l Q):P l:=by revert h;cases l with|nil=>exact f|cons a l=>exact TO
def one{α:Type}(l:List α)(Q:α->Prop):Prop:=match l with|[]=>False|c::r=>nul r (Q c)
@[elab_as_elim]theorem jh{α:Type}{Q:α->Prop}{P:List α->Prop}(l:List α)(f:∀a,Q a->P [a])(h:one l Q):P l:=by revert h;cases l with|nil=>exact TO|cons a l=>exact rj (P:=fun l=>P (a::l)) l (f a)
def two{α:Type}(l:List α)(Q:α->α->Prop):Prop:=match l with|[]=>False|c::r=>one r (Q c)
@[elab_as_elim]theorem vo{α:Type}{Q:α->α->Prop}{P:List α->Prop}(l:List α)(f:∀a b,Q a b->P [a,b])(h:two l Q):P l:=by revert h;cases l with|nil=>exact TO|cons a l=>exact jh (P:=fun l=>P (a::l)) l (f a)
noncomputable def A0{α:Type}(f:D->Option α):List D->Option (List α)
 |[]=>some []
 |d::l=>(f d).bind fun a=>(A0 f l).map (a::·)
theorem lr{α:Type}{f:D->Option α}{g:α->D}(k:∀d a,f d=some a->d=g a):∀{l:List D} {r:List α},A0 f l=some r->l=r.map g
 |[],r,h=>by cases h;rfl
 |d::l,r,h=>by
  obtain⟨a,h1,h2⟩:=Option.bind_eq_some_iff.mp h
  obtain⟨t,h3,e⟩:=Option.map_eq_some_iff.mp h2
  rw[k d a h1,lr k h3,<-e];rfl
noncomputable def Qt(d:D):Option Int:=match d with|.int i=>some i|_=>none
noncomputable def Qs(d:D):Option (List Nat):=match d with|.str i=>some i|_=>none
noncomputable def Rr(d:D):Option (List UInt8):=match d with|.bytes i=>some i|_=>none
noncomputable def OA(d:D):Option Bool:=match d with|.bool i=>some i|_=>none
noncomputable def Ny(d:D):Option UInt8:=match d with|.int i=>if 0<=i/\i<256 then some (UInt8.ofNat i.toNat)else none|_=>none
noncomputable def intsOf:List D->Option (List Int):=A0 Qt
noncomputable def strsOf:List D->Option (List (List Nat)):=A0 Qs
noncomputable def me:List D->Option (List (List UInt8)):=A0 Rr
noncomputable def boolsOf:List D->Option (List Bool):=A0 OA
noncomputable def oA:List D->Option (List UInt8):=A0 Ny
theorem cF{α:Type}{a:α}{R:Prop}(h:none=some a):R:=nomatch h
theorem K'{l:List D}{r:List Int}:intsOf l=some r->l=r.map .int:=lr fun d a=>by cases d with|int i=>exact fun h=>congrArg D.int (Option.some.inj h)|_=>exact cF
theorem qd{l:List D}{r:List (List Nat)}:strsOf l=some r->l=r.map .str:=lr fun d a=>by cases d with|str i=>exact fun h=>congrArg D.str (Option.some.inj h)|_=>exact cF
theorem KR{l:List D}{r:List (List UInt8)}:me l=some r->l=r.map .bytes:=lr fun d a=>by cases d with|bytes i=>exact fun h=>congrArg D.bytes (Option.some.inj h)|_=>exact cF
theorem Ff{l:List D}{r:List Bool}:boolsOf l=some r->l=r.map .bool:=lr fun d a=>by cases d with|bool i=>exact fun h=>congrArg D.bool (Option.some.inj h)|_=>exact cF
theorem toNat_eq{i:Int}(h:0<=i):((i.toNat:Nat):Int)=i:=Int.toNat_of_nonneg h
theorem Tb{i:Int}{n:Nat}(h0:0<=i)(h:i<(n:Int)):i.toNat<n:=(Int.toNat_lt h0).mpr h
theorem GO{i:Int}(h0:0<=i)(h:i<256):((UInt8.ofNat i.toNat).toNat:Int)=i:=(congrArg Int.ofNat (UInt8.toNat_ofNat_of_lt' (Tb h0 h))).trans (toNat_eq h0)
theorem K9{l:List D}{r:List UInt8}:oA l=some r->l=r.map fun c=>D.int (c.toNat:Int):=lr fun d a=>by
 cases d with
 |int i=>
  intro h
  have h:(if 0<=i/\i<256 then some (UInt8.ofNat i.toNat)else none)=some a:=h
  by_cases hi:0<=i/\i<256
  ·rw[if_pos hi] at h
   cases h
   exact congrArg D.int (GO hi.1 hi.2).symm
  ·rw[if_neg hi] at h;exact cF h
 |_=>exact cF
theorem Oo(c:UInt8):UInt8.ofNat ((c.toNat:Int).toNat)=c:=UInt8.ofNat_toNat
end
section
set_option backward.match.sparseCases false
def O1(a b:D)(μ:Mu)(Q:KV):Prop:=pd False F1 (fun x=>dI b fun y=>Q (.int (x+y)) μ) (fun x=>dS b fun y=>x.length+y.length<=lim/\Q (.str (x++y)) μ) (fun x=>dY b fun y=>x.length+y.length<=lim/\Q (.bytes (x++y)) μ)
 (fun x=>dT b fun y=>x.length+y.length<=lim/\Q (.d (.tuple (x++y))) μ) (fun x=>dL b fun y=>x.length+y.length<=lim/\Q (.d (.list (x++y))) μ) F1 a
def OH(a b:D)(μ:Mu)(Q:KV):Prop:=pd False F1 (fun x=>dI b fun y=>x.natAbs<=10^100/\y.natAbs<=10^100/\Q (.int (x*y)) μ) (fun x=>one x fun c=>dI b fun y=>0<=y/\y<=1000/\Q (.str (List.replicate y.toNat c)) μ)
 (fun x=>one x fun c=>dI b fun y=>2<=y/\y<=1000/\Q (.bytes (List.replicate y.toNat c)) μ) F1 F1 F1 a
def OD(o:Op)(a b:D)(μ:Mu)(Q:KV):Prop:=match o with
 |.add=>O1 a b μ Q
 |.sub=>dI a fun x=>dI b fun y=>Q (.int (x-y)) μ
 |.mul=>OH a b μ Q
 |.fdiv=>dI a fun x=>dI b fun y=>0<y/\y.natAbs<=10^100/\Q (.int (x / y)) μ
 |.mod=>dI a fun x=>dI b fun y=>0<y/\Q (.int (x%y)) μ
 |.pow=>dI a fun x=>dI b fun y=>x=10/\0<=y/\y<=100/\Q (.int (10^y.toNat)) μ
def O4(x y:List D)(r:Bool)(Q:Bool->Prop):Prop:=x=y/\Dp 16 (.list x)/\Q r
def Md(x y:List D)(Q:Bool->Prop):Prop:=match y with|[]=>Q x.isEmpty|c::r=>O4 x (c::r) true Q
def Sj(a b:D)(Q:Bool->Prop):Prop:=pd False F1 (fun x=>dI b fun y=>Q (decide (x=y))) (fun x=>dS b fun y=>Q (decide (x=y))) (fun x=>dY b fun y=>Q (decide (x=y))) F1 (fun x=>dL b fun y=>Md x y Q) F1 a
def R_(a b:D)(Q:Bool->Prop):Prop:=pd False F1 (fun x=>dI b fun y=>Q (decide (x≠y))) (fun x=>dS b fun y=>Q (decide (x≠y))) (fun x=>dY b fun y=>Q (decide (x≠y))) F1 (fun x=>dL b fun y=>O4 x y false Q) F1 a
def R2(a b:D)(Q:Bool->Prop):Prop:=pd False F1 (fun x=>dI b fun y=>Q (decide (x<=y))) (fun x=>one x fun x=>dS b fun y=>one y fun y=>Q (decide (x<=y))) F1 F1 F1 F1 a
def LU(x:Int)(b:D)(Q:Bool->Prop):Prop:=pd False F1 F1 F1 (fun y=>0<=x/\x<256/\Q (y.any fun c=>(c.toNat:Int)==x)) (fun y=>on (intsOf y) fun l=>Q (decide (x∈l))) F1 F1 b
def Ly(x:List Nat)(b:D)(Q:Bool->Prop):Prop:=pd False F1 F1 F1 F1 (fun y=>on (strsOf y) fun l=>Q (decide (x∈l))) (fun y=>on (strsOf y) fun l=>Q (decide (x∈l))) F1 b
def O_(a b:D)(Q:Bool->Prop):Prop:=pd False F1 (fun x=>LU x b Q) (fun x=>Ly x b Q) F1 F1 F1 F1 a
def LI(a b:D)(Q:Bool->Prop):Prop:=pd False F1 (fun x=>dY b fun y=>0<=x/\x<256/\Q (!(y.any fun c=>(c.toNat:Int)==x))) (fun x=>dL b fun y=>on (strsOf y) fun l=>Q (decide (x∉l))) F1 F1 F1 F1 a
def Ms(o:Co)(a b:D)(Q:Bool->Prop):Prop:=match o with
 |.eq=>Sj a b Q
 |.ne=>R_ a b Q
 |.lt=>dI a fun x=>dI b fun y=>Q (decide (x<y))
 |.le=>R2 a b Q
 |.gt=>dI a fun x=>dI b fun y=>Q (decide (x>y))
 |.ge=>dI a fun x=>dI b fun y=>Q (decide (x>=y))
 |.mem=>O_ a b Q
 |.A3=>LI a b Q
 |.is=>dN b (Q a.isNone)
 |.CJ=>dN b (Q (!a.isNone))
def iy(μ:Mu)(k:Nat)(Q:aI->Prop):Prop:=∃m,μ[k]? =some m/\Q m
def mL(Q:List D->Prop):aI->Prop:=pm Q F1 F1 F2 F1
def mY(Q:List UInt8->Prop):aI->Prop:=pm F1 F1 Q F2 F1
def mW(Q:List UInt8->Int->Prop):aI->Prop:=pm F1 F1 F1 Q F1
@[irreducible]def w_{α:Type}(l:List α)(i:Int)(Q:α->Prop):Prop:=l.length<=lim/\∃j x,place i l.length=some j/\l[j]? =some x/\Q x
theorem vF{α:Type}{l:List α}{i:Int}{Q:α->Prop}(h:w_ l i Q):l.length<=lim/\∃j x,place i l.length=some j/\l[j]? =some x/\Q x:=by unfold w_ at h;exact h
def kX(μ:Mu)(Q:KV)(x:D):Prop:=Q (.d x) μ
def kV(μ:Mu)(Q:KV)(x:V):Prop:=Q x μ
def kC(μ:Mu)(Q:KV)(c:Nat):Prop:=Q (.str [c]) μ
def kY(μ:Mu)(Q:KV)(c:UInt8):Prop:=Q (.int (c.toNat:Int)) μ
def mI(μ:Mu)(i:Int)(Q:KV):aI->Prop:=pm (fun l=>w_ l i (kX μ Q)) (fun l=>w_ l i (kV μ Q)) F1 F2 F1
def LX(i:Int)(μ:Mu)(Q:KV)(a:D):Prop:=pd False F1 F1 (fun l=>w_ l i (kC μ Q)) (fun l=>0<=i/\w_ l i (kY μ Q)) (fun l=>w_ l i (kX μ Q)) (fun l=>0<=i/\w_ l i (kX μ Q)) F1 a
def Nz(a:V)(i:Int)(μ:Mu)(Q:KV):Prop:=pv (LX i μ Q) (fun k=>0<=i/\iy μ k (mI μ i Q)) F1 F1 False False F2 (fun l=>w_ l i (kV μ Q)) a
def PE(l:List D)(lo hi:Option Int)(Q:V->Prop):Prop:=match lo with
 |none=>on hi fun i=>0<=i/\i.toNat<=l.length/\l.length<=lim/\Q (.d (.tuple (l.take i.toNat)))
 |some i=>False
def OB(a:D)(lo hi:Option Int)(Q:V->Prop):Prop:=pd False F1 F1 (fun l=>l.length<=lim/\Q (.str (cut l lo hi))) (fun l=>l.length<=lim/\Q (.bytes (cut l lo hi))) (fun l=>PE l lo hi Q) (fun l=>l.length<=lim/\Q (.d (.list (cut l lo hi)))) F1 a
@[irreducible]def w9(x:aI)(μ:Mu)(Q:KV):Prop:=Q (.loc μ.length) (μ++[x])
@[irreducible]def lX(k:Nat)(x:aI)(μ:Mu)(K:Mu->Prop):Prop:=K (μ.set k x)
theorem vw{x:aI}{μ:Mu}{Q:KV}(h:w9 x μ Q):Q (.loc μ.length) (μ++[x]):=by unfold w9 at h;exact h
theorem qO{k:Nat}{x:aI}{μ:Mu}{K:Mu->Prop}(h:lX k x μ K):K (μ.set k x):=by unfold lX at h;exact h
def z9{α:Type}(μ:Mu)(Q:KV)(l:List α):Prop:=l.length<=lim/\Q (.int l.length) μ
def J4(μ:Mu)(Q:KV)(l:List D):Prop:=l.length<=lim/\Q (.d (.tuple l)) μ
def Dt(μ:Mu)(Q:KV)(l:List UInt8):Prop:=l.length<=lim/\Q (.bytes l) μ
def LZ(μ:Mu)(Q:KV)(d:D):Prop:=pd False F1 F1 (z9 μ Q) (z9 μ Q) (z9 μ Q) (z9 μ Q) F1 d
def Lv(μ:Mu)(Q:KV)(d:D):Prop:=pd False F1 F1 F1 (Dt μ Q) F1 (fun l=>on (oA l) (Dt μ Q)) F1 d
def lV(μ:Mu)(Q:KV)(b:Bool):Prop:=Q (.bool b) μ
def A_(μ:Mu)(Q:KV)(i:Int):Prop:=Q (.int i) μ
def vI(v:V)(Q:Int->Prop):Prop:=sD v fun d=>dI d Q
def vB(v:V)(Q:Bool->Prop):Prop:=sD v fun d=>dB d Q
def vS(v:V)(Q:List Nat->Prop):Prop:=sD v fun d=>dS d Q
def vY(v:V)(Q:List UInt8->Prop):Prop:=sD v fun d=>dY d Q
def vL(v:V)(Q:List D->Prop):Prop:=sD v fun d=>dL d Q
def Qv(v:V)(Q:B->Prop):Prop:=pv F1 F1 F1 Q False False F2 F1 v
def Sl(b:B)(Q:N1->Prop):Prop:=match b with|.u9=>Q .int|.cV=>Q .bytes|_=>False
def Sp(b:B)(Q:Prop):Prop:=match b with|.jV=>Q|_=>False
def So(b:B)(Q:Prop):Prop:=match b with|.bF=>Q|_=>False
def RY(v:V)(Q:N1->Prop):Prop:=pv F1 F1 F1 (fun b=>Sl b Q) (Q .atom) False F2 (fun l=>two l fun a b=>Qv a fun a=>Sp a (Qv b fun b=>So b (Q .cR))) v
def PA(l:List V)(μ:Mu)(Q:KV):Prop:=match l with
 |[]=>w9 (.eX []) μ Q
 |a::r=>nul r (vY a fun l=>l.length<=lim/\w9 (.eX l) μ Q)
def Si(b:B)(l:List V)(μ:Mu)(Q:KV):Prop:=match b with
 |.len=>one l fun v=>ta v (LZ μ Q) fun k=>iy μ k (mL (z9 μ Q))
 |.ord=>one l fun v=>vS v fun s=>one s fun c=>A_ μ Q c
 |.chr=>one l fun v=>vI v fun i=>0<=i/\i<1114112/\Q (.str [i.toNat]) μ
 |.abs=>one l fun v=>vI v fun i=>A_ μ Q i.natAbs
 |.min=>two l fun a b=>vI a fun x=>vI b fun y=>A_ μ Q (min x y)
 |.all=>one l fun v=>vL v fun l=>on (boolsOf l) fun bs=>bs.length<=lim/\lV μ Q (bs.all id)
 |.isinstance=>two l fun a c=>sD a fun x=>RY c fun k=>lV μ Q (x.isA k)
 |.cV=>one l fun v=>ta v (Lv μ Q) fun k=>iy μ k (mY (Dt μ Q))
 |.dg=>PA l μ Q
 |.mS=>one l fun v=>vI v fun i=>0<=i/\i<10^100/\Q (.str (dec i.toNat)) μ
 |.u9=>one l fun v=>vI v fun i=>A_ μ Q i
 |.bF=>one l fun v=>ta v (fun d=>dL d (J4 μ Q)) fun k=>iy μ k (mL (J4 μ Q))
 |.jV=>False
def MV(k:Nat)(Q:KV):KL:=fun l μ=>one l fun v=>sD v fun x=>iy μ k (mL fun l=>l.length<lim/\lX k (.list (l++[x])) μ (Q .none))
def Jk(k:Nat)(Q:KV):KL:=fun l μ=>one l fun v=>vI v fun i=>iy μ k (mY fun l=>0<=i/\i<256/\l.length<lim/\lX k (.eX (l++[UInt8.ofNat i.toNat])) μ (Q .none))
def P9(s:List Nat)(μ:Mu)(Q:KV)(l:List D):Prop:=on (strsOf l) fun r=>(aq s r).length+s.length<=lim/\Q (.str (aq s r)) μ
def RG(s:List Nat)(Q:KV):KL:=fun l μ=>one l fun v=>ta v (fun d=>dL d (P9 s μ Q)) fun k=>iy μ k (mL (P9 s μ Q))
def QC(s:List UInt8)(Q:KV):KL:=fun l μ=>one l fun v=>vL v fun l=>on (me l) fun r=>(aq s r).length<=lim/\Q (.bytes (aq s r)) μ
def O'(s:List Nat)(Q:KV):KL:=fun l μ=>one l fun v=>vS v fun c=>c=[32]/\s∈mi/\Q (.d (.list ((splitOn 32 s).map .str))) μ
def PJ(s:List Nat)(Q:KV):KL:=fun l μ=>nul l ((∀c∈s,c<128)/\s.length<=1000/\Q (.str (s.map lowerCode)) μ)
def Om(s:List UInt8)(Q:KV):KL:=fun l μ=>two l fun a b=>vY a fun a=>one a fun c=>vY b fun y=>(s,c,y)∈lA/\Q (.bytes (cW c y s)) μ
def NU(s:List UInt8)(Q:KV):KL:=fun l μ=>two l fun p i=>vY p fun p=>two p fun a b=>vI i fun i=>0<=i/\i.toNat<=s.length/\s.length<=lim/\Q (.int (match bV a b (s.drop i.toNat) i.toNat with|some k=>(k:Int)|none=> -1)) μ
def Q6(x:Option V)(Q:V->Prop):Prop:=match x with|some v=>Q v|none=>False
noncomputable def JG:List (Option V)->Nat->(V->Prop)->Prop
 |[],i,Q=>False
 |x::l,0,Q=>Q6 x Q
 |x::vs,i+1,Q=>JG vs i Q
theorem BU{vs:List (Option V)}{i:Nat}{Q:V->Prop}(h:JG vs i Q):∃v,vs[i]? =some (some v)/\Q v:=by
 induction vs generalizing i with
 |nil=>exact h.elim
 |cons x l ih=>cases i with
  |zero=>cases x with
   |none=>exact h.elim
   |some v=>exact⟨v,rfl,h⟩
  |succ i=>exact ih h
noncomputable def du:List (Option V)->Nat->V->List (Option V)
 |[],i,v=>[]
 |x::l,0,v=>some v::l
 |a::l,i+1,v=>a::du l i v
theorem fX(l:List (Option V))(i:Nat)(v:V):du l i v=l.set i (some v):=by
 induction l generalizing i with
 |nil=>rfl
 |cons a l ih=>cases i with
  |zero=>rfl
  |succ i=>exact congrArg (a::·) (ih i)
noncomputable def JT:List Nat->Nat->(Nat->Prop)->Prop
 |k::l,0,Q=>Q k
 |[],i,Q=>False
 |k::cs,i+1,Q=>JT cs i Q
theorem BE{cs:List Nat}{i:Nat}{Q:Nat->Prop}(h:JT cs i Q):∃k,cs[i]? =some k/\Q k:=by
 induction cs generalizing i with
 |nil=>exact h.elim
 |cons x l ih=>cases i with
  |zero=>exact⟨x,rfl,h⟩
  |succ i=>exact ih h
noncomputable def iE:List (Option V)->Nat->Bool
 |[],i=>false
 |x::l,0=>true
 |x::l,i+1=>iE l i
def QE(o:Op)(Q:KV)(a:V):KV:=fun b μ=>sD a fun a=>sD b fun b=>OD o a b μ Q
def QQ(f:KE)(o:Op)(Q:KV):KV:=fun a μ=>f μ (QE o Q a)
def Rf(Q:KV):KV:=fun a μ=>vI a fun i=>Q (.int (-i)) μ
def JR(o:Co)(Q:KV)(a:V):KV:=fun b μ=>sD a fun a=>sD b fun b=>Ms o a b (lV μ Q)
def OL(f:KE)(o:Co)(Q:KV):KV:=fun a μ=>f μ (JR o Q a)
def Rj(f:KE)(o':Co)(b:V)(μ:Mu)(Q:KV)(c:Bool):Prop:=cond c (f μ (JR o' Q b)) (Q (.bool false) μ)
def OO(f:KE)(o o':Co)(Q:KV)(a:V):KV:=fun b μ=>sD a fun a=>sD b fun b'=>Ms o a b' (Rj f o' b μ Q)
def QN(f g:KE)(o o':Co)(Q:KV):KV:=fun a μ=>f μ (OO g o o' Q a)
def TB(f g:KE)(Q:KV):KB:=fun c μ=>cond c (f μ Q) (g μ Q)
def QH(Q:KV):KL:=fun l μ=>l.length<=1000/\Q (HK l) μ
def Se(m:Bool)(Q:KV):KL:=fun l μ=>l.length<=1000/\(match DH l with
 |some ds=>cond m (w9 (.list ds) μ Q) (Q (.d (.list ds)) μ)
 |none=>cond m (w9 (.gV l) μ Q) False)
@[irreducible]def nJ(μ:Mu)(Q:KV)(μ₁:Mu)(x:D):Prop:=(Cl μ->Cl (μ₁.take μ.length))/\Q (.d x) (μ₁.take μ.length)
theorem Io{μ:Mu}{Q:KV}{μ₁:Mu}{x:D}(h:nJ μ Q μ₁ x):(Cl μ->Cl (μ₁.take μ.length))/\Q (.d x) (μ₁.take μ.length):=by unfold nJ at h;exact h
def Gf(μ₁:Mu)(Q:KV):KD:=fun ds μ₂=>nJ μ₁ Q μ₂ (.list ds)
def AG(Q:KV):KD:=fun ds μ₂=>w9 (.list ds) μ₂ Q
@[irreducible]def DO(n:Nat)(m:Bool)(elt:Ex)(tg:Tg)(ifs:List Ts)(nl nc:Nat)(free:Option (List Nat))(Q:KV):KI:=fun items g μ₁=>on free fun cs=>items.length<=lim/\
 cond m (nc=0/\wC n elt tg ifs items g ⟨List.replicate nl none,cs⟩ μ₁ (AG Q)) (wC n elt tg ifs items g ⟨List.replicate nl none,(List.range nc).map (μ₁.length+·)++cs⟩ (μ₁++List.replicate nc (.cell none)) (Gf μ₁ Q))
def Su(a:At)(Q:KV):KV:=fun v μ=>match a with
 |.text=>sD v fun d=>pd False F1 F1 F1 F1 F1 F1 (fun t=>Q (.str t) μ) d
 |.data=>qJ v fun k=>iy μ k (mW fun d p=>Q (.bytes d) μ)
 |.at=>qJ v fun k=>iy μ k (mW fun d p=>Q (.int p) μ)
def QJ(Q:KV)(a:V):KV:=fun i μ=>vI i fun i=>Nz a i μ Q
def QF(f:KE)(Q:KV):KV:=fun a μ=>f μ (QJ Q a)
def OE(a:V)(x:Option Int)(Q:KV):KO:=fun y μ=>sD a fun a=>OB a x y (kV μ Q)
def QW(g:Mu->KO->Prop)(a:V)(Q:KV):KO:=fun x μ=>g μ (OE a x Q)
def Q5(f g:Mu->KO->Prop)(Q:KV):KV:=fun a μ=>f μ (QW g a Q)
def Q_(Q:KV):KV:=fun v μ=>vL v fun l=>l.length<=lim/\Q (.d (.list l.reverse)) μ
def BO(n:Nat)(f:V)(l:List V)(μ:Mu)(Q:KV):Prop:=pv F1 F1 (fun i=>ae n i l μ Q) (fun b=>Si b l μ Q) (one l fun v=>vS v fun t=>2<=n/\Q (.d (.atom t)) μ) (one l fun v=>vY v fun b=>2<=n/\b.length<=lim/\w9 (.wire b 0) μ Q) (fun j cs=>Ow n (.lam j cs) l μ Q) F1 f
def MP(n:Nat)(f:V)(Q:KV):KL:=fun l μ=>BO n f l μ Q
def Qq(n:Nat)(f:Mu->KL->Prop)(Q:KV):KV:=fun v μ=>f μ (MP n v Q)
def R7(n i k:Nat)(Q:KV):KL:=fun l μ=>ae n i (.loc k::l) μ Q
def RO(n:Nat)(m:Mt)(f:Mu->KL->Prop)(Q:KV):KV:=fun v μ=>match m with
 |.append=>qJ v fun k=>iy μ k (pm (fun l=>f μ (MV k Q)) F1 (fun l=>f μ (Jk k Q)) F2 F1)
 |.join=>sD v fun d=>pd False F1 F1 (fun s=>f μ (RG s Q)) (fun s=>f μ (QC s Q)) F1 F1 F1 d
 |.split=>vS v fun s=>f μ (O' s Q)
 |.lower=>vS v fun s=>f μ (PJ s Q)
 |.replace=>vY v fun s=>f μ (Om s Q)
 |.find=>vY v fun s=>f μ (NU s Q)
 |.own i=>qJ v fun k=>iy μ k (mW fun d p=>f μ (R7 n i k Q))
def Qx(j:Nat)(μ:Mu)(Q:KV):List Nat->Prop:=fun cs=>Q (.lam j cs) μ
def mC(μ:Mu)(Q:KV):aI->Prop:=pm F1 F1 F1 F2 (fun v=>on v (kV μ Q))
def Sy(μ:Mu)(Q:KV)(k:Nat):Prop:=iy μ k (mC μ Q)
def SD(Q:KO):KV:=fun v μ=>on (Ru v) fun x=>Q x μ
def OV(v:V)(Q:KL):KL:=fun l μ=>Q (v::l) μ
def J2(f:Mu->KL->Prop)(Q:KL):KV:=fun v μ=>f μ (OV v Q)
def SX(k:Bool)(f:KE)(Q:KV):KV:=fun v μ=>vB v fun b=>cond k (cond b (f μ Q) (Q (.bool false) μ)) (cond b (Q (.bool true) μ) (f μ Q))
def Tj(Q:KB):KB:=fun b μ=>cond b (Q false μ) (Q true μ)
def Sh(Q:KB):KV:=fun v μ=>vB v fun b=>Q b μ
def TH(k:Bool)(f:Mu->KB->Prop)(Q:KB):KB:=fun b μ=>cond k (cond b (f μ Q) (Q false μ)) (cond b (Q true μ) (f μ Q))
def L3(Q:KI)(μ:Mu)(l:List D):Prop:=l.length<=lim/\Q (l.map .d) none μ
def RV(Q:KI):KV:=fun v μ=>ta v (fun x=>on x.items (L3 Q μ)) fun k=>iy μ k (mL fun l=>l.length<=lim/\Q (l.map .d) (some (k,l)) μ)
def R3(Q:KI):KV:=fun v μ=>vI v fun i=>0<=i/\i<=lim/\Q ((List.range i.toNat).map fun i:Nat=>V.int (i:Int)) none μ
def P'(Q:KI):KV:=fun v μ=>sD v fun d=>pd False F1 F1 (fun l=>Q ((l.map fun c=>D.str [c]).zipIdx.map fun p=>V.d (.tuple [.int (p.2:Int),p.1])) none μ) F1 (fun l=>Q (l.zipIdx.map fun p=>V.d (.tuple [.int (p.2:Int),p.1])) none μ) F1 F1 d
mutual
noncomputable def eE(n:Nat):Ex->Fr->Mu->KV->Prop
 |.const v,fr,μ,Q=>Q v μ
 |.lv i,fr,μ,Q=>JG fr.vs i (kV μ Q)
 |.cv j,fr,μ,Q=>JT fr.cs j (Sy μ Q)
 |.bin o l r,fr,μ,Q=>eE n l fr μ (QQ (eE n r fr) o Q)
 |.neg e,fr,μ,Q=>eE n e fr μ (Rf Q)
 |.gY k es,fr,μ,Q=>eB n k es fr μ Q
 |.cmp l o r,fr,μ,Q=>eE n l fr μ (OL (eE n r fr) o Q)
 |.iX l o r o' r',fr,μ,Q=>eE n l fr μ (QN (eE n r fr) (eE n r' fr) o o' Q)
 |.aT t x y,fr,μ,Q=>eT n t fr μ (TB (eE n x fr) (eE n y fr) Q)
 |.tuple es,fr,μ,Q=>eL n es fr μ (QH Q)
 |.list m es,fr,μ,Q=>eL n es fr μ (Se m Q)
 |.comp m elt tg it ifs nl nc free,fr,μ,Q=>eI n it fr μ (DO n m elt tg ifs nl nc (free.mapM (fr.cs[·]?)) Q)
 |.attr e a,fr,μ,Q=>eE n e fr μ (Su a Q)
 |.sub e i,fr,μ,Q=>eE n e fr μ (QF (eE n i fr) Q)
 |.slice e lo hi,fr,μ,Q=>eE n e fr μ (Q5 (eO n lo fr) (eO n hi fr) Q)
 |.rev e,fr,μ,Q=>eE n e fr μ (Q_ Q)
 |.call f args,fr,μ,Q=>eE n f fr μ (Qq n (eL n args fr) Q)
 |.ag o m args,fr,μ,Q=>eE n o fr μ (RO n m (eL n args fr) Q)
 |.lam j free,fr,μ,Q=>on (free.mapM (fr.cs[·]?)) (Qx j μ Q)
noncomputable def eO(n:Nat):Option Ex->Fr->Mu->KO->Prop
 |none,fr,μ,Q=>Q none μ
 |some e,fr,μ,Q=>eE n e fr μ (SD Q)
noncomputable def eL(n:Nat):List Ex->Fr->Mu->KL->Prop
 |[],fr,μ,Q=>Q [] μ
 |e::es,fr,μ,Q=>eE n e fr μ (J2 (eL n es fr) Q)
noncomputable def eB(n:Nat)(k:Bool):List Ex->Fr->Mu->KV->Prop
 |[],fr,μ,Q=>False
 |e::es,fr,μ,Q=>(match es with
  |[]=>eE n e fr μ Q
  |a::as=>eE n e fr μ (SX k (eB n k es fr) Q))
noncomputable def eT(n:Nat):Ts->Fr->Mu->KB->Prop
 |.not t,fr,μ,Q=>eT n t fr μ (Tj Q)
 |.bool k ts,fr,μ,Q=>Q9 n k ts fr μ Q
 |.val e,fr,μ,Q=>eE n e fr μ (Sh Q)
noncomputable def Q9(n:Nat)(k:Bool):List Ts->Fr->Mu->KB->Prop
 |[],fr,μ,Q=>Q k μ
 |t::ts,fr,μ,Q=>eT n t fr μ (TH k (Q9 n k ts fr) Q)
noncomputable def eI(n:Nat):It->Fr->Mu->KI->Prop
 |.ex e,fr,μ,Q=>eE n e fr μ (RV Q)
 |.range es,fr,μ,Q=>(match es with|[]=>False|e::es=>(match es with|[]=>eE n e fr μ (R3 Q)|a::as=>False))
 |.enum e,fr,μ,Q=>eE n e fr μ (P' Q)
end
def Pu(k:Nat)(x:D)(i:Int)(μ:Mu)(Q:Mu->Prop):aI->Prop:=pm (fun l=>0<=i/\i.toNat<l.length/\l.length<=lim/\lX k (.list (l.set i.toNat x)) μ Q) (fun l=>0<=i/\i.toNat<l.length/\l.length<=lim/\lX k (.gV (l.set i.toNat (.d x))) μ Q) F1 F2 F1
def PY(Q:KF)(fr:Fr)(μ:Mu):Prop:=Q fr μ
def Qz(x:D)(fr:Fr)(Q:KF)(o:V):KV:=fun i μ=>vI i fun i=>qJ o fun k=>iy μ k (Pu k x i μ (PY Q fr))
def Rb(f:KE)(x:D)(fr:Fr)(Q:KF):KV:=fun o μ=>f μ (Qz x fr Q o)
def SG(i:Int)(fr:Fr)(Q:KF):KV:=fun v μ=>qJ v fun k=>iy μ k (mW fun d p=>lX k (.wire d i) μ (PY Q fr))
def R8(v:V)(fr:Fr)(k:Nat)(μ:Mu)(Q:KF):aI->Prop:=pm F1 F1 F1 F2 (fun w=>lX k (.cell (some v)) μ (PY Q fr))
def items(v:V)(Q:List V->Prop):Prop:=pv (fun d=>pd False F1 F1 F1 F1 (fun l=>Q (l.map .d)) (fun l=>Q (l.map .d)) F1 d) F1 F1 F1 False False F2 Q v
def xi:List Tg->List V->Prop->Prop
 |[],vs,P=>nul vs P
 |t::ts,vs,P=>(match vs with|[]=>False|v::vs=>xi ts vs P)
theorem yX{P:Prop}(ts:List Tg):∀vs,xi ts vs P->ts.length=vs.length/\P:=by
 induction ts with
 |nil=>exact fun vs h=>rj vs (fun h=>⟨rfl,h⟩) h
 |cons t ts ih=>exact fun vs h=>match vs,h with|v::vs,h=>⟨congrArg Nat.succ (ih vs h).1,(ih vs h).2⟩
def TK(g:Fr->Mu->KF->Prop)(Q:KF):KF:=fun fr μ=>g fr μ Q
mutual
noncomputable def eA(n:Nat):Tg->V->Fr->Mu->KF->Prop
 |.lv i,v,fr,μ,Q=>cond (iE fr.vs i) (Q ⟨du fr.vs i v,fr.cs⟩ μ) False
 |.cv j,v,fr,μ,Q=>JT fr.cs j fun k=>iy μ k (R8 v fr k μ Q)
 |.tup ts,v,fr,μ,Q=>items v fun l=>xi ts l (Pq n ts l fr μ Q)
 |.attr e a,v,fr,μ,Q=>(match a with|.at=>vI v fun i=>eE n e fr μ (SG i fr Q)|.data=>False|.text=>False)
 |.sub o i,v,fr,μ,Q=>sD v fun x=>eE n o fr μ (Rb (eE n i fr) x fr Q)
noncomputable def Pq(n:Nat):List Tg->List V->Fr->Mu->KF->Prop
 |[],vs,fr,μ,Q=>nul vs (Q fr μ)
 |t::ts,vs,fr,μ,Q=>(match vs with|[]=>False|v::vs=>eA n t v fr μ (TK (Pq n ts vs) Q))
end
def De(Q:KS):KF:=fun fr μ=>Q .next fr μ
def FY(g:V->Fr->Mu->KF->Prop)(fr:Fr)(Q:KS):KV:=fun v μ=>g v fr μ (De Q)
def Oz(a:V)(i:Nat)(fr:Fr)(Q:KS):KV:=fun b μ=>vI a fun a=>vI b fun b=>Q .next ⟨du fr.vs i (.int (a+b)),fr.cs⟩ μ
def N_(f:KE)(μ:Mu)(i:Nat)(fr:Fr)(Q:KS):V->Prop:=fun a=>f μ (Oz a i fr Q)
def NR(fr:Fr)(Q:KS):KV:=fun v μ=>Q (.ret v) fr μ
def Sm(fr:Fr)(Q:KS):KV:=fun v μ=>sD v fun d=>pd (Q .next fr μ) (fun b=>Q .next fr μ) F1 F1 (fun b=>Q .next fr μ) F1 F1 F1 d
def Qk(f g:Fr->Mu->KS->Prop)(fr:Fr)(Q:KS):KB:=fun c μ=>cond c (f fr μ Q) (g fr μ Q)
def kFor(n:Nat)(t:Tg)(b:List St)(fr:Fr)(Q:KS):KI:=fun items g μ=>wF n t items g b fr μ Q
def Az(f:Fr->Mu->KS->Prop)(Q:KS):KS:=fun fl fr μ=>match fl with
 |.next=>f fr μ Q
 |.cont=>Q .cont fr μ
 |.ret v=>Q (.ret v) fr μ
mutual
noncomputable def eS(n:Nat):St->Fr->Mu->KS->Prop
 |.assign t e,fr,μ,Q=>eE n e fr μ (FY (eA n t) fr Q)
 |.aug i e,fr,μ,Q=>JG fr.vs i (N_ (eE n e fr) μ i fr Q)
 |.ret e,fr,μ,Q=>eE n e fr μ (NR fr Q)
 |.expr e,fr,μ,Q=>eE n e fr μ (Sm fr Q)
 |.aT t b o,fr,μ,Q=>eT n t fr μ (Qk (aA n b) (aA n o) fr Q)
 |.sR t b,fr,μ,Q=>wW n t b fr μ Q
 |.FN t it b,fr,μ,Q=>eI n it fr μ (kFor n t b fr Q)
 |.cont,fr,μ,Q=>Q .cont fr μ
 |.stop,fr,μ,Q=>False
noncomputable def aA(n:Nat):List St->Fr->Mu->KS->Prop
 |[],fr,μ,Q=>Q .next fr μ
 |s::ss,fr,μ,Q=>eS n s fr μ (Az (aA n ss) Q)
end
def Tf(f:Mu->KB->Prop)(Q:KB):KB:=fun b μ=>cond b (f μ Q) (Q false μ)
noncomputable def Mp(n:Nat):List Ts->Fr->Mu->KB->Prop
 |[],fr,μ,Q=>Q true μ
 |t::ts,fr,μ,Q=>eT n t fr μ (Tf (Mp n ts fr) Q)
def PW(μ₁:Mu)(m:Nat)(v:V)(Q:D->Prop):Prop:=pv Q (fun k=>m<=k/\iy μ₁ k (mL fun l=>Q (.list l))) F1 F1 False False F2 (fun l=>∃ds,R4 μ₁ m l ds/\Q (.tuple ds)) v
def aR(μ:Mu)(Q:KV):KS:=fun fl fr μ₁=>PW μ₁ μ.length fl.val (nJ μ Q μ₁)
def P4(Q:KV):KS:=fun fl fr μ₁=>Q fl.val μ₁
def PO(μ:Mu)(Q:KV):KV:=fun v μ₁=>sD v (nJ μ Q μ₁)
end
section
set_option exponentiation.threshold 1000
theorem a0:sizeLine=lim:=by unfold sizeLine lim;rfl
theorem wy{n k:Nat}(h:n<=2^k):n.log2<=k:=by
 by_cases h0:n=0
 ·rw[h0];exact Nat.zero_le _
 ·exact Nat.le_of_lt_succ ((Nat.log2_lt h0).mpr (Nat.lt_of_le_of_lt h (Nat.pow_lt_pow_right (by decide) (Nat.lt_succ_self k))))
theorem Am:(10:Nat)^100<=2^400:=by decide
theorem bits_le{i:Int}(h:i.natAbs<=10^100):Builtin.Int.intBits i<=401:=by
 unfold Builtin.Int.intBits
 have:=wy (Ta h Am)
 split<;>omega
theorem Pe{a b:Int}(ha:a.natAbs<=10^100)(hb:b.natAbs<=10^100):IntMulOk a b:=by
 unfold IntMulOk Builtin.Int.intTooBig
 have h1:=bits_le ha
 have h2:=bits_le hb
 have h3:bitsLine=134217728:=bitsLine_eq
 rw[show decide ((Builtin.Int.intBits a:Int)+Builtin.Int.intBits b>(bitsLine:Int))=false from decide_eq_false (by rw[h3];omega)]
 simp
section
variable{c:Cx}{A:Around}{w:Wd}{μ:Mu}{K:KV}{a b:D}{u u':Value}
theorem qR{vs:List Value}{l:List D}(S:Sat c w μ)(d:jm c w.F l vs)(q:K (.d (.tuple l)) μ):∃w':Wd,w'.s={w.s with heap:=w.h.push {cls:=.type "tuple",data:=.seq vs.toArray}}/\Step c [] w w'/\PK c K (.ref w.h.objs.size) w':=by
 obtain⟨F',e,st,S'⟩:=j7 S {cls:=.type "tuple",data:=.seq vs.toArray} rfl
 exact⟨_,rfl,st,.d (.tuple l),_,S',cp.mpr ⟨_,vs,rfl,⟨_,e,rfl,0,rfl⟩,d.mono st.grow⟩,q⟩
theorem iF{vs:List Value}{l:List D}(S:Sat c w μ)(d:jm c w.F l vs)(q:K (.d (.list l)) μ):∃w':Wd,w'.s={w.s with heap:=w.h.push {cls:=.type "list",data:=.seq vs.toArray}}/\Step c [] w w'/\PK c K (.ref w.h.objs.size) w':=by
 obtain⟨F',e,st,S'⟩:=j7 S {cls:=.type "list",data:=.seq vs.toArray} rfl
 exact⟨_,rfl,st,.d (.list l),_,S',bf.mpr ⟨_,vs,rfl,⟨_,e,rfl,0,rfl⟩,d.mono st.grow⟩,q⟩
theorem Rm(S:Sat c w μ){x y:Int}(q:K (.int (x+y)) μ):CD c w.F (.int x) u->CD c w.F (.int y) u'->WP c [] A (binaryOp .Add u u') w (PK c K):=by
 rintro⟨t,rfl⟩ ⟨t',rfl⟩
 exact .val S q (add_int ⟨rfl,rfl,rfl,_,rfl⟩)
theorem Qh(S:Sat c w μ){x y:List Nat}(q:x.length+y.length<=lim/\K (.str (x++y)) μ):CD c w.F (.str x) u->CD c w.F (.str y) u'->WP c [] A (binaryOp .Add u u') w (PK c K):=by
 rintro⟨t,rfl⟩ ⟨t',rfl⟩
 refine .val S q.2 (P.add_str ?_)
 have e1:Str.length ⟨x.toArray⟩=x.length:=List.size_toArray ..
 have e2:Str.length ⟨y.toArray⟩=y.length:=List.size_toArray ..
 rw[e1,e2]
 split
 ·rename_i h
  cases List.length_eq_zero_iff.mp (eq_of_beq h)
  exact⟨rfl,rfl,rfl,t',rfl⟩
 ·split
  ·rename_i h
   cases List.length_eq_zero_iff.mp (eq_of_beq h)
   exact⟨rfl,rfl,rfl,t,by rw[List.append_nil]⟩
  ·have e:(⟨x.toArray⟩:Str)++⟨y.toArray⟩=⟨(x++y).toArray⟩:=congrArg Str.mk (List.append_toArray ..)
   rw[e]
   refine⟨?_,rfl,rfl,rfl,_,rfl⟩
   show(x++y).toArray.size<=sizeLine
   rw[List.size_toArray,TM,a0]
   exact q.1
theorem QT(S:Sat c w μ){x y:List UInt8}(q:x.length+y.length<=lim/\K (.bytes (x++y)) μ):CD c w.F (.bytes x) u->CD c w.F (.bytes y) u'->WP c [] A (binaryOp .Add u u') w (PK c K):=by
 rintro⟨t,rfl⟩ ⟨t',rfl⟩
 exact .val S q.2 (bytes_add_K (d:=x++y) (by rw[List.size_toArray,List.size_toArray];exact q.1) rfl fun t' k=>⟨rfl,rfl,rfl,_,rfl⟩)
theorem Qf(S:Sat c w μ){x y:List D}(q:x.length+y.length<=lim/\K (.d (.tuple (x++y))) μ)(C1:CD c w.F (.tuple x) u)(C2:CD c w.F (.tuple y) u'):WP c [] A (binaryOp .Add u u') w (PK c K):=by
 obtain⟨t,vs,rfl,ht,D1⟩:=cp.mp C1
 obtain⟨t2,ws,rfl,hb,D2⟩:=cp.mp C2
 obtain⟨⟨cls,dd,data,sl⟩,ho,hc,n,hd⟩:=ht.keeps S.sub
 obtain⟨⟨cls2,dd2,data2,sl2⟩,ho2,hc2,n2,hd2⟩:=hb.keeps S.sub
 cases hc;cases hd;cases hc2;cases hd2
 by_cases hv:vs=[]
 ·cases hv
  cases List.length_eq_zero_iff.mp D1.len
  exact .val S q.2 (concat_meets ⟨_,ho,rfl⟩ ⟨_,ho2,rfl⟩ noFill_tuple_add seq_tuple_add PySem.F.slot_tuple_add PySem.F.entry_tuple_add (PySem.F.args_tuple_add_2 _ _) (tuple_addW0 t t2 _ ws.toArray n n2 dd dd2 sl sl2 rfl) ⟨ho,ho2,rfl,rfl,rfl,C2⟩)
 ·by_cases hw:ws=[]
  ·cases hw
   cases List.length_eq_zero_iff.mp D2.len
   rw[List.append_nil] at q
   exact .val S q.2 (concat_meets ⟨_,ho,rfl⟩ ⟨_,ho2,rfl⟩ noFill_tuple_add seq_tuple_add PySem.F.slot_tuple_add PySem.F.entry_tuple_add (PySem.F.args_tuple_add_2 _ _) (tuple_addW1 t t2 vs.toArray _ n n2 dd dd2 sl sl2 (by simpa using hv) rfl) ⟨ho,ho2,rfl,rfl,rfl,C1⟩)
  ·refine ij (concat_meets ⟨_,ho,rfl⟩ ⟨_,ho2,rfl⟩ noFill_tuple_add seq_tuple_add PySem.F.slot_tuple_add PySem.F.entry_tuple_add (PySem.F.args_tuple_add_2 _ _)
    (tuple_addW2 t t2 vs.toArray ws.toArray n n2 dd dd2 sl sl2 (by simpa using hv) (by simpa using hw) (by rw[List.size_toArray,List.size_toArray,<-D1.len,<-D2.len];exact a0▸q.1)) ⟨ho,ho2,?_⟩)
   rw[List.append_toArray]
   exact qR S (D1.append D2) q.2
theorem RJ(S:Sat c w μ){x y:List D}(q:x.length+y.length<=lim/\K (.d (.list (x++y))) μ)(C1:CD c w.F (.list x) u)(C2:CD c w.F (.list y) u'):WP c [] A (binaryOp .Add u u') w (PK c K):=by
 obtain⟨t,vs,rfl,ht,D1⟩:=bf.mp C1
 obtain⟨t2,ws,rfl,hb,D2⟩:=bf.mp C2
 obtain⟨⟨cls,dd,data,sl⟩,ho,hc,n,hd⟩:=aE S.sub ht
 obtain⟨⟨cls2,dd2,data2,sl2⟩,ho2,hc2,n2,hd2⟩:=aE S.sub hb
 cases hc;cases hd;cases hc2;cases hd2
 refine ij (concat_meets ⟨_,ho,rfl⟩ ⟨_,ho2,rfl⟩ noFill_list_add seq_list_add PySem.F.slot_list_add PySem.F.entry_list_add (PySem.F.args_list_add_2 _ _) (list_addW t t2 vs.toArray ws.toArray n n2 dd dd2 sl sl2 (by rw[List.size_toArray,List.size_toArray,<-D1.len,<-D2.len];exact a0▸q.1)) ⟨ho,ho2,?_⟩)
 rw[List.append_toArray]
 exact iF S (D1.append D2) q.2
theorem J3(S:Sat c w μ):O1 a b μ K->CD c w.F a u->CD c w.F b u'->WP c [] A (binaryOp .Add u u') w (PK c K):=
 fun h=>cJ a TO (fun x=>TO) (fun x h=>bC b (fun y=>Rm S) h) (fun x h=>nk b (fun y=>Qh S) h) (fun x h=>km b (fun y=>QT S) h) (fun x h=>Py b (fun y=>Qf S) h) (fun x h=>oP b (fun y=>RJ S) h) (fun x=>TO) h
theorem BF(x:Nat):∀(n:Nat) (acc:List Nat),(List.replicate n #[x]).foldl (·++·) acc.toArray=(acc++List.replicate n x).toArray
 |0,acc=>by rw[List.replicate_zero,List.replicate_zero,List.append_nil];rfl
 |n+1,acc=>by
  rw[List.replicate_succ,List.foldl_cons,show acc.toArray++#[x]=(acc++[x]).toArray from List.append_toArray acc [x],BF x n,TP]
  rfl
theorem QZ(S:Sat c w μ){x:Nat}{y:Int}(q:0<=y/\y<=1000/\K (.str (List.replicate y.toNat x)) μ):CD c w.F (.str [x]) u->CD c w.F (.int y) u'->WP c [] A (binaryOp .Mult u u') w (PK c K):=by
 rintro⟨t,rfl⟩ ⟨t',rfl⟩
 obtain⟨h0,h1,q⟩:=q
 have e1:Str.length ⟨([x]:List Nat).toArray⟩=1:=rfl
 refine .val S q (P.mul_str ?_ ?_ ?_ ?_)
 ·rw[decide_eq_false (by omega),decide_eq_false (by omega)];rfl
 ·intro h _
  rw[e1]
  exact Int.not_lt.mpr ((Int.le_ediv_iff_mul_le (by omega)).mpr (by omega))
 ·intro h _
  rw[e1]
  unfold Builtin.Str.tooLong
  have:=sizeLine_eq
  exact decide_eq_false (by omega)
 ·split
  ·have:y.toNat=0:=by omega
   rw[this]
   exact⟨by decide,rfl,rfl,rfl,_,rfl⟩
  ·split
   ·rename_i h2 h3
    rw[e1] at h3
    have:y=1:=by simpa using h3
    cases this
    exact⟨rfl,rfl,rfl,_,rfl⟩
   ·have e:(List.replicate y.toNat ([x]:List Nat).toArray).foldl (·++·) #[]=(List.replicate y.toNat x).toArray:=BF x y.toNat []
    rw[e]
    refine⟨?_,rfl,rfl,rfl,_,rfl⟩
    show(List.replicate y.toNat x).toArray.size<=sizeLine
    rw[List.size_toArray,List.length_replicate,a0]
    unfold lim;omega
theorem QU(S:Sat c w μ){x:UInt8}{y:Int}(q:2<=y/\y<=1000/\K (.bytes (List.replicate y.toNat x)) μ):CD c w.F (.bytes [x]) u->CD c w.F (.int y) u'->WP c [] A (binaryOp .Mult u u') w (PK c K):=by
 rintro⟨t,rfl⟩ ⟨t',rfl⟩
 obtain⟨h0,h1,q⟩:=q
 refine .val S q (bytes_mul_K (d:=List.replicate y.toNat x) (by simp) h0 (by omega) (by simp;omega) ?_ fun t' k=>⟨rfl,rfl,rfl,_,rfl⟩)
 induction y.toNat with
 |zero=>rfl
 |succ n ih=>rw[List.replicate_succ,List.flatten_cons,ih];rfl
theorem Qy(S:Sat c w μ){x y:Int}(q:x.natAbs<=10^100/\y.natAbs<=10^100/\K (.int (x*y)) μ):CD c w.F (.int x) u->CD c w.F (.int y) u'->WP c [] A (binaryOp .Mult u u') w (PK c K):=by
 rintro⟨t,rfl⟩ ⟨t',rfl⟩
 exact .val S q.2.2 (mul_int ⟨rfl,rfl,rfl,_,rfl⟩ (Pe q.1 q.2.1))
theorem Jb(S:Sat c w μ):OH a b μ K->CD c w.F a u->CD c w.F b u'->WP c [] A (binaryOp .Mult u u') w (PK c K):=
 fun h=>cJ a TO (fun x=>TO) (fun x h=>bC b (fun y=>Qy S) h) (fun x h=>jh x (fun x h=>bC b (fun y=>QZ S) h) h) (fun x h=>jh x (fun x h=>bC b (fun y=>QU S) h) h) (fun x=>TO) (fun x=>TO) (fun x=>TO) h
theorem O7(S:Sat c w μ){x y:Int}(q:0<y/\y.natAbs<=10^100/\K (.int (x / y)) μ):CD c w.F (.int x) u->CD c w.F (.int y) u'->WP c [] A (binaryOp .FloorDiv u u') w (PK c K):=by
 rintro⟨t,rfl⟩ ⟨t',rfl⟩
 obtain⟨h0,hb,q⟩:=q
 refine .val S q (AutoIntOps.floordiv_1 (by simp;omega) ?_ ?_)
 ·unfold Builtin.divisionGoesByPylong
  have hl:=wy (Ta hb Am)
  have:¬((if y==0 then 0 else y.natAbs.log2 / 30+1)>300):=by split<;>omega
  dsimp only
  rw[decide_eq_false this,Bool.false_and]
  decide
 ·rw[Int.fdiv_eq_ediv_of_nonneg _ (by omega)]
  exact⟨rfl,rfl,rfl,_,rfl⟩
theorem RI(S:Sat c w μ){x y:Int}(q:0<y/\K (.int (x%y)) μ):CD c w.F (.int x) u->CD c w.F (.int y) u'->WP c [] A (binaryOp .Mod u u') w (PK c K):=by
 rintro⟨t,rfl⟩ ⟨t',rfl⟩
 have h0:=q.1
 refine .val S q.2 (AutoIntOps.mod_1 (by simp;omega) ?_)
 rw[Int.fmod_eq_emod_of_nonneg _ (by omega)]
 exact⟨rfl,rfl,rfl,_,rfl⟩
theorem Q8(S:Sat c w μ){x y:Int}(q:x=10/\0<=y/\y<=100/\K (.int (10^y.toNat)) μ):CD c w.F (.int x) u->CD c w.F (.int y) u'->WP c [] A (binaryOp .Pow u u') w (PK c K):=by
 rintro⟨t,rfl⟩ ⟨t',rfl⟩
 obtain⟨rfl,h0,h1,q⟩:=q
 refine .val S q ?_
 by_cases hz:y=0
 ·cases hz
  exact AutoIntOps.pow_0 (by decide) (by decide) ⟨rfl,rfl,rfl,_,rfl⟩
 ·refine AutoIntOps.pow_4 (by omega) (by simpa using hz) (by decide) (by decide) ?_ ⟨rfl,rfl,rfl,_,rfl⟩
  unfold Builtin.Int.intTooBig
  have h3:bitsLine=134217728:=bitsLine_eq
  have h4:Builtin.Int.intBits 10=4:=by decide
  rw[h4,h3]
  rw[decide_eq_true_eq]
  omega
theorem Q7(S:Sat c w μ){x y:Int}(q:K (.int (x-y)) μ):CD c w.F (.int x) u->CD c w.F (.int y) u'->WP c [] A (binaryOp .Sub u u') w (PK c K):=by
 rintro⟨t,rfl⟩ ⟨t',rfl⟩
 exact .val S q (sub_int ⟨rfl,rfl,rfl,_,rfl⟩)
theorem J5{o:Op}(S:Sat c w μ)(h:OD o a b μ K):CD c w.F a u->CD c w.F b u'->WP c [] A (binaryOp (Rp o) u u') w (PK c K):=by
 cases o with
 |add=>exact J3 S h
 |sub=>exact bC a (fun x h=>bC b (fun y=>Q7 S) h) h
 |mul=>exact Jb S h
 |fdiv=>exact bC a (fun x h=>bC b (fun y=>O7 S) h) h
 |mod=>exact bC a (fun x h=>bC b (fun y=>RI S) h) h
 |pow=>exact bC a (fun x h=>bC b (fun y=>Q8 S) h) h
end
end
section
def CB(c:Cx)(μ:Mu)(Q:Bool->Prop)(r:Value)(w':Wd):Prop:=∃q,r=.bool q/\Sat c w' μ/\Q q
section
variable{c:Cx}{A:Around}{w:Wd}{μ:Mu}{Q:Bool->Prop}{a b:D}{u u':Value}{F:Heap}{s:Shared}
theorem WP.cb{t:Sem Value}{b:Bool}(S:Sat c w μ)(q:Q b)(h:∀(R:Value->Shared->Prop),R (.bool b) w.s->wpAny c.M A t R xd w.s):WP c [] A t w (CB c μ Q):=
 .same (h _ ⟨rfl,rfl,rfl,b,rfl,S,q⟩)
theorem p6{α:Type}[BEq α][LawfulBEq α][DecidableEq α](a b:α):(a==b)=decide (a=b):=Bool.eq_iff_iff.mpr (beq_iff_eq.trans decide_eq_true_iff.symm)
theorem uJ{α:Type}[BEq α][LawfulBEq α][DecidableEq α](a b:α):(a != b)=decide (a≠b):=(congrArg not (p6 a b)).trans decide_not.symm
theorem A8(b:Array UInt8)(t u:Tok):EqAt A s (.bytes b t) (.bytes b u) true:=fun prog w E Q h=>by
 unfold eqBool
 show wpAny _ _ (if(Value.bytes b t==Value.bytes b u)=true then _ else _) Q E s
 by_cases hab:(Value.bytes b t==Value.bytes b u)=true
 ·rw[if_pos hab]
  exact wpAny_bind (wpAny_rule (wpAny_pure h))
 ·rw[if_neg hab]
  exact wpAny_bind (eq_bytes (wpAny_truthy_bool (by rw[beq_self_eq_true];exact h)))
theorem FL(n:Nat):((List.range n).all fun a=>true)=true:=List.all_eq_true.mpr fun a h=>rfl
theorem qF{p q:Addr}{vs ws:List Value}(h1:s.heap.IsList p vs.toArray)(h2:s.heap.IsList q ws.toArray)(e:vs.length=ws.length)(hu:A.units<cLine)(k:∀(j:Nat) (h1:j<vs.length) (h2:j<ws.length),EqAt A.in1 s vs[j] ws[j] true):RcAt A s (.ref p) (.ref q) true/\RcNeAt A s (.ref p) (.ref q) false:=
 ⟨FL vs.toArray.size▸RcAt.lists (e:=fun a=>true) h1 h2 e hu k,(show(!(List.range vs.toArray.size).all fun a=>true)=false from congrArg not (FL _))▸RcNeAt.lists (e:=fun a=>true) h1 h2 e hu k⟩
theorem K8{p q:Addr}{vs ws:List Value}(h1:s.heap.IsTuple p vs.toArray)(h2:s.heap.IsTuple q ws.toArray)(e:vs.length=ws.length)(hu:A.units<cLine)(k:∀(j:Nat) (h1:j<vs.length) (h2:j<ws.length),EqAt A.in1 s vs[j] ws[j] true):RcAt A s (.ref p) (.ref q) true:=by
 have z:=RcAt.tuples (e:=fun a=>true) h1 h2 hu k
 rw[FL,show vs.toArray.size=ws.toArray.size from e,beq_self_eq_true] at z
 exact z
theorem BG{p q:Addr}(h:p≠q->RcAt A s (.ref p) (.ref q) true):EqAt A s (.ref p) (.ref q) true:=(Classical.em (p=q)).elim (fun e=>e▸.same _) fun e=>.of_refs e (h e)
abbrev Qc(c:Cx)(F:Heap)(s:Shared)(n:Nat)(x:D):Prop:=∀(A:Around) u v,A.units+n<cLine->CD c F x u->CD c F x v->EqAt A s u v true
theorem AH{n:Nat}{l:List D}(h:∀x∈l,Qc c F s n x){A:Around}{us vs:List Value}(hu:A.units+n<cLine)(d1:jm c F l us)(d2:jm c F l vs)(j:Nat)(h1:j<us.length)(h2:j<vs.length):EqAt A s us[j] vs[j] true:=by
 have hj:j<l.length:=d1.len▸h1
 obtain⟨u,e1,q1⟩:=d1.get (List.getElem?_eq_getElem hj)
 obtain⟨v,e2,q2⟩:=d2.get (List.getElem?_eq_getElem hj)
 rw[List.getElem?_eq_getElem h1] at e1
 rw[List.getElem?_eq_getElem h2] at e2
 exact Option.some.inj e1▸Option.some.inj e2▸h _ (List.getElem_mem hj) A u v hu q1 q2
theorem in1{n:Nat}(h:A.units+(n+1)<cLine):A.in1.units+n<cLine:=Nat.lt_of_le_of_lt (Nat.le_of_eq ((Nat.add_assoc A.units 1 n).trans (congrArg (A.units+·) (Nat.add_comm 1 n)))) h
theorem MW(k:Le F s.heap)(x:D):∀n,Dp n x->Qc c F s n x:=
 D.rec (motive_1:=fun x=>∀n,Dp n x->Qc c F s n x) (motive_2:=fun l=>∀n,(∀x∈l,Dp n x)->∀x∈l,Qc c F s n x)
  (fun n h A u v hu d1 d2=>d1▸d2▸.same _) (fun b n h A u v hu d1 d2=>d1▸d2▸.same _)
  (fun b n h A u v hu d1 d2=>d1.elim fun t d1=>d2.elim fun t' d2=>d1▸d2▸by have z:=EqAt.int_int (A:=A) (s:=s) b t b t';rw[beq_self_eq_true] at z;exact z)
  (fun b n h A u v hu d1 d2=>d1.elim fun t d1=>d2.elim fun t' d2=>d1▸d2▸by have z:=EqAt.str_str (A:=A) (s:=s) ⟨b.toArray⟩ t ⟨b.toArray⟩ t';rw[beq_self_eq_true] at z;exact z)
  (fun b n h A u v hu d1 d2=>d1.elim fun t d1=>d2.elim fun t' d2=>d1▸d2▸A8 _ t t')
  (fun l ih n=>match n with
   |0=>TO
   |n+1=>fun h A u v hu d1 d2=>by
    obtain⟨p,vs,rfl,t1,d1⟩:=cp.mp d1
    obtain⟨q,ws,rfl,t2,d2⟩:=cp.mp d2
    exact BG fun e=>K8 (t1.keeps k) (t2.keeps k) (d1.len.symm.trans d2.len) (Nat.lt_of_le_of_lt (Nat.le_add_right _ _) hu) (AH (ih n h.1) (in1 hu) d1 d2))
  (fun l ih n=>match n with
   |0=>TO
   |n+1=>fun h A u v hu d1 d2=>by
    obtain⟨p,vs,rfl,t1,d1⟩:=bf.mp d1
    obtain⟨q,ws,rfl,t2,d2⟩:=bf.mp d2
    exact BG fun e=>(qF (aE k t1) (aE k t2) (d1.len.symm.trans d2.len) (Nat.lt_of_le_of_lt (Nat.le_add_right _ _) hu) (AH (ih n h.1) (in1 hu) d1 d2)).1)
  (fun l n=>match n with|0=>TO|n+1=>TO) (fun n h x m=>nomatch m)
  (fun d l h t n q x m=>(List.mem_cons.mp m).elim (fun e=>e▸h n (q d (.head _))) (t n (fun x m=>q x (.tail _ m)) x)) x
theorem xO{x:List D}(S:Sat c w μ)(hu:A.units<9800)(hx:Dp 16 (.list x))(C1:CD c w.F (.list x) u)(C2:CD c w.F (.list x) u'):RcAt A w.s u u' true/\RcNeAt A w.s u u' false:=by
 obtain⟨p,vs,rfl,t1,d1⟩:=bf.mp C1
 obtain⟨q,ws,rfl,t2,d2⟩:=bf.mp C2
 have z:A.units+(15+1)<cLine:=by unfold cLine;omega
 exact qF (aE S.sub t1) (aE S.sub t2) (d1.len.symm.trans d2.len) (Nat.lt_of_le_of_lt (Nat.le_add_right _ _) z) (AH (fun y m=>MW S.sub y 15 (hx.1 y m)) (in1 z) d1 d2)
theorem Mr{x y:List D}(S:Sat c w μ)(hu:A.units<9800)(h:Md x y Q)(C1:CD c w.F (.list x) u)(C2:CD c w.F (.list y) u'):WP c [] A (compareOp .Eq u u') w (CB c μ Q):=by
 cases y with
 |cons b y=>exact .cb S h.2.2 fun R k=>(xO S hu h.2.1 C1 (h.1▸C2)).1 _ _ _ _ k
 |nil=>
  refine .cb S h fun R k=>?_
  obtain⟨p,vs,rfl,t1,d1⟩:=bf.mp C1
  obtain⟨q,ws,rfl,t2,d2⟩:=bf.mp C2
  have z:A.units<cLine:=by unfold cLine;omega
  cases d2
  cases x with
  |nil=>cases d1;exact(qF (aE S.sub t1) (aE S.sub t2) rfl z fun j h=>absurd h (Nat.not_lt_zero _)).1 _ _ _ _ k
  |cons a x=>obtain⟨v,vs,rfl,d1⟩:=d1;exact RcAt.lists_lengths (aE S.sub t1) (aE S.sub t2) rfl z _ _ _ _ k
theorem cInt(S:Sat c w μ){x y:Int}{o:CmpOp}{r:Bool}(h:∀{t t':Tok} {R:Value->Shared->Prop},R (.bool r) w.s->wpAny c.M A (compareOp o (.int x t) (.int y t')) R xd w.s)(q:Q r):CD c w.F (.int x) u->CD c w.F (.int y) u'->WP c [] A (compareOp o u u') w (CB c μ Q):=by
 rintro⟨t,rfl⟩ ⟨t',rfl⟩
 exact .cb S q fun R=>h
theorem cStr(S:Sat c w μ){x y:List Nat}{o:CmpOp}{r:Bool}(h:∀{t t':Tok} {R:Value->Shared->Prop},R (.bool r) w.s->wpAny c.M A (compareOp o (.str ⟨x.toArray⟩ t) (.str ⟨y.toArray⟩ t')) R xd w.s)(q:Q r):CD c w.F (.str x) u->CD c w.F (.str y) u'->WP c [] A (compareOp o u u') w (CB c μ Q):=by
 rintro⟨t,rfl⟩ ⟨t',rfl⟩
 exact .cb S q fun R=>h
theorem O6(S:Sat c w μ){x y:List UInt8}{o:CmpOp}{r:Bool}(h:∀{t t':Tok} {R:Value->Shared->Prop},R (.bool r) w.s->wpAny c.M A (compareOp o (.bytes x.toArray t) (.bytes y.toArray t')) R xd w.s)(q:Q r):CD c w.F (.bytes x) u->CD c w.F (.bytes y) u'->WP c [] A (compareOp o u u') w (CB c μ Q):=by
 rintro⟨t,rfl⟩ ⟨t',rfl⟩
 exact .cb S q fun R=>h
theorem MU(S:Sat c w μ)(hu:A.units<9800)(h:Sj a b Q):CD c w.F a u->CD c w.F b u'->WP c [] A (compareOp .Eq u u') w (CB c μ Q):=
 cJ a TO (fun x=>TO) (fun x h=>bC b (fun y q=>cInt S (fun k=>eq_int (by rw[p6];exact k)) q) h) (fun x h=>nk b (fun y q=>cStr S (fun k=>P.eq_str (p6 x y▸k)) q) h) (fun x h=>km b (fun y q=>O6 S (fun k=>eq_bytes (p6 x y▸k)) q) h) (fun x=>TO) (fun x h=>oP b (fun y=>Mr S hu) h) (fun x=>TO) h
theorem Nu(S:Sat c w μ)(hu:A.units<9800)(h:R_ a b Q):CD c w.F a u->CD c w.F b u'->WP c [] A (compareOp .NotEq u u') w (CB c μ Q):=
 cJ a TO (fun x=>TO) (fun x h=>bC b (fun y q=>cInt S (fun k=>ne_int (by rw[uJ];exact k)) q) h) (fun x h=>nk b (fun y q=>cStr S (fun k=>P.ne_str (uJ x y▸k)) q) h) (fun x h=>km b (fun y q=>O6 S (fun k=>ne_bytes (uJ x y▸k)) q) h) (fun x=>TO)
  (fun x h=>oP b (fun y h C1 C2=>.cb S h.2.2 fun R k=>(xO S hu h.2.1 C1 (h.1▸C2)).2 _ _ _ _ k) h) (fun x=>TO) h
theorem Mj(x y:Nat):(!decide ((⟨([y]:List Nat).toArray⟩:Str).cps.toList<(⟨([x]:List Nat).toArray⟩:Str).cps.toList))=decide (x<=y):=by
 refine decide_not.symm.trans (decide_eq_decide.mpr ?_)
 show¬([y]:List Nat)<[x]↔_
 rw[List.cons_lt_cons_iff]
 exact⟨fun h=>Nat.le_of_not_lt fun k=>h (.inl k),fun h k=>k.elim (Nat.not_lt.mpr h) fun k=>nomatch k.2⟩
theorem Nv(S:Sat c w μ)(h:R2 a b Q):CD c w.F a u->CD c w.F b u'->WP c [] A (compareOp .LtE u u') w (CB c μ Q):=
 cJ a TO (fun x=>TO) (fun x h=>bC b (fun y q=>cInt S le_int q) h) (fun x h=>jh x (fun x h=>nk b (fun y h=>jh y (fun y q=>cStr S (fun k=>P.le_str (by rw[Mj];exact k)) q) h) h) h) (fun x=>TO) (fun x=>TO) (fun x=>TO) (fun x=>TO) h
theorem jN(b:Array UInt8)(i:Int)(t u:Tok)(h0:0<=i)(h1:i<256):Gives (Builtin.«bytes.__contains__» ⟨[.bytes b t,.int i u],[]⟩) (.val (.bool (b.contains i.toNat.toUInt8))):=by
 refine .of_wp fun M A E s Q hq=>?_
 show wpAny M A (Builtin.Bytes.containsIn "bytes.__contains__" (.bytes b t) (.int i u)>>=fun r=>ret (.bool r)) _ E s
 refine wpAny_bind ?_
 unfold Builtin.Bytes.containsIn
 refine wpAny_bind (wpAny_attempt (wpAny_of_eq (a:=i) rfl ?_))
 refine wpAny_bind (wpAny_of_eq (a:=some b) (by kernel_rfl) ?_)
 show wpAny M A (if(i<0||i>=256)=true then _ else _) _ E s
 rw[decide_eq_false (Int.not_lt.mpr h0),decide_eq_false (Int.not_le.mpr h1)]
 exact wpAny_pure (wpAny_pure ⟨_,rfl,hq⟩)
theorem Dm(l:List UInt8)(i:Int)(h0:0<=i)(h1:i<256):l.toArray.contains i.toNat.toUInt8=l.any fun c=>(c.toNat:Int)==i:=by
 have hi:((i.toNat.toUInt8.toNat:Nat):Int)=i:=byte_back h0 h1
 rw[List.contains_toArray]
 induction l with
 |nil=>rfl
 |cons x l ih=>
  rw[List.contains_cons,List.any_cons,ih]
  exact congrArg (·||_) (Bool.eq_iff_iff.mpr (beq_iff_eq.trans (Iff.trans ⟨fun e=>e▸hi,fun e=>UInt8.toNat_inj.mp (Int.ofNat.inj (hi.trans e.symm))⟩ beq_iff_eq.symm)))
theorem any_map{α:Type}{f:α->D}{i:α}{g:Value->Bool}{P:Value->Prop}(k:∀x u,CD c F (f x) u->((g u=true↔x=i)/\P u))(l:List α):∀vs,jm c F (l.map f) vs->(vs.any g=true↔i∈l)/\∀y∈vs,P y:=by
 induction l with
 |nil=>exact fun vs e=>e▸⟨⟨fun h=>(nomatch h),fun h=>nomatch h⟩,fun y m=>nomatch m⟩
 |cons x l ih=>
  refine fun vs e=>Exists.elim e fun u e=>e.elim fun us e=>e.1▸?_
  have h1:=k x u e.2.1
  have h2:=ih us e.2.2
  refine⟨?_,fun y m=>(List.mem_cons.mp m).elim (fun q=>q▸h1.2) (h2.2 y)⟩
  rw[List.any_cons,Bool.or_eq_true]
  exact(or_congr (h1.1.trans eq_comm) h2.1).trans List.mem_cons.symm
noncomputable def RX(i:Int)(v:Value):Bool:=match v with|.int j _=>j==i|_=>false
noncomputable def Ss(x:List Nat)(v:Value):Bool:=match v with|.str y _=>y.cps.toList==x|_=>false
theorem L8(A:Around)(s:Shared)(i:Int)(t:Tok)(x:Int)(u:Value):CD c F (.int x) u->(RX i u=true↔x=i)/\EqAt A s u (.int i t) (RX i u):=fun e=>e.elim fun t' e=>e▸⟨beq_iff_eq,EqAt.int_int x t' i t⟩
theorem str_beq(x y:List Nat):((⟨y.toArray⟩:Str)==⟨x.toArray⟩)=(y==x):=Bool.eq_iff_iff.mpr (beq_iff_eq.trans (Iff.trans ⟨fun h=>congrArg (fun s=>s.cps.toList) h,fun h=>congrArg (fun l=>Str.mk (List.toArray l)) h⟩ beq_iff_eq.symm))
theorem Ap(A:Around)(s:Shared)(i:List Nat)(t:Tok)(x:List Nat)(u:Value):CD c F (.str x) u->(Ss i u=true↔x=i)/\EqAt A s u (.str ⟨i.toArray⟩ t) (Ss i u):=fun e=>e.elim fun t' e=>e▸⟨beq_iff_eq,by have z:=EqAt.str_str (A:=A) (s:=s) ⟨x.toArray⟩ t' ⟨i.toArray⟩ t;rw[str_beq] at z;exact z⟩
theorem z8{vs:List Value}{g:Value->Bool}{r:Bool}{p:Prop}(h:vs.any g=true↔p)(e:r=true↔p):r=vs.toArray.any g:=(Bool.eq_iff_iff.mpr (e.trans h.symm)).trans List.any_toArray.symm
theorem G4{α:Type}{f:α->D}{i:α}{g:Value->Bool}{r:Bool}(S:Sat c w μ)(k:∀x v,CD c w.F (f x) v->(g v=true↔x=i)/\EqAt A.in1 w.s v u (g v)){l:List α}(e:r=true↔i∈l)(q:Q r)(C2:CD c w.F (.tuple (l.map f)) u'):WP c [] A (compareOp .In u u') w (CB c μ Q):=by
 obtain⟨t,ws,rfl,t2,d2⟩:=cp.mp C2
 have z:=any_map k l ws d2
 exact .cb S q fun R k=>in_tupleAt g (t2.keeps S.sub) (fun y m=>z.2 y (List.mem_toArray.mp m)) (z8 z.1 e▸k)
theorem GU{α:Type}{f:α->D}{i:α}{g:Value->Bool}{r:Bool}(S:Sat c w μ)(k:∀x v,CD c w.F (f x) v->(g v=true↔x=i)/\EqAt A.in1 w.s v u (g v)){l:List α}(e:r=true↔i∈l)(C2:CD c w.F (.list (l.map f)) u'):(Q r->WP c [] A (compareOp .In u u') w (CB c μ Q))/\(Q (!r)->WP c [] A (compareOp .NotIn u u') w (CB c μ Q)):=by
 obtain⟨t,ws,rfl,t2,d2⟩:=bf.mp C2
 have z:=any_map k l ws d2
 exact⟨fun q=>.cb S q fun R k=>in_listAt g (aE S.sub t2) (fun y m=>z.2 y (List.mem_toArray.mp m)) (z8 z.1 e▸k),fun q=>.cb S q fun R k=>notIn_listAt g (aE S.sub t2) (fun y m=>z.2 y (List.mem_toArray.mp m)) (z8 z.1 e▸k)⟩
theorem RS{x:Int}{y:List UInt8}(S:Sat c w μ)(h0:0<=x)(h1:x<256)(C1:CD c w.F (.int x) u)(C2:CD c w.F (.bytes y) u'):(Q (y.any fun c=>(c.toNat:Int)==x)->WP c [] A (compareOp .In u u') w (CB c μ Q))/\(Q (!y.any fun c=>(c.toNat:Int)==x)->WP c [] A (compareOp .NotIn u u') w (CB c μ Q)):=by
 obtain⟨t,rfl⟩:=C1
 obtain⟨t',rfl⟩:=C2
 have e:=Dm y x h0 h1
 exact⟨fun q=>.cb S q fun R k=>in_gives (typeIs_bytes _ _ _) FB.slot_bytes_contains FB.entry_bytes_contains (FB.args_bytes_contains_2 _ _) (jN _ x t' t h0 h1) (e▸k),fun q=>.cb S q fun R k=>notIn_gives (typeIs_bytes _ _ _) FB.slot_bytes_contains FB.entry_bytes_contains (FB.args_bytes_contains_2 _ _) (jN _ x t' t h0 h1) (e▸k)⟩
theorem RA(S:Sat c w μ){x:Int}(h:LU x b Q)(C1:CD c w.F (.int x) u):CD c w.F b u'->WP c [] A (compareOp .In u u') w (CB c μ Q):=
 cJ b TO (fun y=>TO) (fun y=>TO) (fun y=>TO) (fun y h C2=>(RS S h.1 h.2.1 C1 C2).1 h.2.2)
  (fun y h C2=>by obtain⟨r,e,q⟩:=iC h;cases K' e;obtain⟨t,rfl⟩:=C1;exact G4 S (L8 A.in1 w.s x t) decide_eq_true_iff q C2) (fun y=>TO) (fun y=>TO) h
theorem Qu(S:Sat c w μ){x:List Nat}(h:Ly x b Q)(C1:CD c w.F (.str x) u):CD c w.F b u'->WP c [] A (compareOp .In u u') w (CB c μ Q):=
 cJ b TO (fun y=>TO) (fun y=>TO) (fun y=>TO) (fun y=>TO)
  (fun y h C2=>by obtain⟨r,e,q⟩:=iC h;cases qd e;obtain⟨t,rfl⟩:=C1;exact G4 S (Ap A.in1 w.s x t) decide_eq_true_iff q C2)
  (fun y h C2=>by obtain⟨r,e,q⟩:=iC h;cases qd e;obtain⟨t,rfl⟩:=C1;exact(GU S (Ap A.in1 w.s x t) decide_eq_true_iff C2).1 q) (fun y=>TO) h
theorem IG(S:Sat c w μ)(h:O_ a b Q):CD c w.F a u->CD c w.F b u'->WP c [] A (compareOp .In u u') w (CB c μ Q):=
 cJ a TO (fun x=>TO) (fun x h=>RA S h) (fun x h=>Qu S h) (fun x=>TO) (fun x=>TO) (fun x=>TO) (fun x=>TO) h
theorem GF(S:Sat c w μ)(h:LI a b Q):CD c w.F a u->CD c w.F b u'->WP c [] A (compareOp .NotIn u u') w (CB c μ Q):=
 cJ a TO (fun x=>TO) (fun x h=>km b (fun y h C1 C2=>(RS S h.1 h.2.1 C1 C2).2 h.2.2) h)
  (fun x h=>oP b (fun y h C1 C2=>by obtain⟨r,e,q⟩:=iC h;cases qd e;obtain⟨t,rfl⟩:=C1;exact(GU S (Ap A.in1 w.s x t) decide_eq_true_iff C2).2 ((decide_not (p:=x∈r))▸q)) h) (fun x=>TO) (fun x=>TO) (fun x=>TO) (fun x=>TO) h
theorem Cc(C:CD c F a u):(u==Value.none)=a.isNone:=by
 cases a with
 |none=>cases C;rfl
 |bool x=>cases C;rfl
 |int x=>obtain⟨t,rfl⟩:=C;rfl
 |str x=>obtain⟨t,rfl⟩:=C;rfl
 |bytes x=>obtain⟨t,rfl⟩:=C;rfl
 |tuple x=>obtain⟨t,vs,rfl,e⟩:=cp.mp C;rfl
 |list x=>obtain⟨t,vs,rfl,e⟩:=bf.mp C;rfl
 |atom x=>obtain⟨t,rfl,e⟩:=C;rfl
theorem BN{o:Co}(S:Sat c w μ)(hu:A.units<9800)(h:Ms o a b Q):CD c w.F a u->CD c w.F b u'->WP c [] A (compareOp (LV o) u u') w (CB c μ Q):=by
 cases o with
 |eq=>exact MU S hu h
 |ne=>exact Nu S hu h
 |lt=>exact bC a (fun x h=>bC b (fun y q=>cInt S lt_int q) h) h
 |le=>exact Nv S h
 |gt=>exact bC a (fun x h=>bC b (fun y q=>cInt S gt_int q) h) h
 |ge=>exact bC a (fun x h=>bC b (fun y q=>cInt S ge_int q) h) h
 |mem=>exact IG S h
 |A3=>exact GF S h
 |is=>exact Lu b (fun q C1 C2=>C2▸.cb S q fun R k=>is_none_gen (Cc C1▸k)) h
 |CJ=>exact Lu b (fun q C1 C2=>C2▸.cb S q fun R k=>isnot_none_gen (Cc C1▸k)) h
end
end
section
theorem uO{n:Nat}(h:n<=lim):(n:Int)<2^63:=Int.lt_of_le_of_lt (Int.ofNat_le.mpr h) (by unfold lim;decide)
theorem yW{n:Nat}(h:n<=lim):n<=1099511627776:=Ta h (by unfold lim;decide)
theorem uk(i:Int)(n:Nat):seqIndex? i n=place i n:=by
 unfold seqIndex? place
 simp only[Bool.and_eq_true,decide_eq_true_eq]
theorem lB{i:Int}{n j:Nat}(h:place i n=some j)(hn:n<=lim): -(2^63:Int)<=i/\i<2^63/\(0<=i->i.toNat=j)/\j<n:=by
 have:=uO hn
 unfold place at h
 by_cases hi:i<0
 ·simp only[hi,if_true] at h
  by_cases hc:0<=i+(n:Int)/\i+(n:Int)<n
  ·rw[if_pos hc] at h;injection h with h;omega
  ·rw[if_neg hc] at h;cases h
 ·simp only[hi,if_false] at h
  by_cases hc:0<=i/\i<(n:Int)
  ·rw[if_pos hc] at h;injection h with h;omega
  ·rw[if_neg hc] at h;cases h
def Typed(s:Shared)(u:Value):Prop:=∃T id,s.TypeIs u T/\typeLookup (.type T) "__getitem__"=pure (some (.builtin id))
section
variable{c:Cx}{A:Around}{w:Wd}{μ:Mu}{K:KV}{a:V}{u u':Value}{i:Int}{t':Tok}
theorem JD{l:List Nat}(S:Sat c w μ)(h:w_ l i (kC μ K)):CD c w.F (.str l) u->Typed w.s u/\WP c [] A (getItem u (.int i t')) w (PK c K):=by
 rintro⟨t,rfl⟩
 obtain⟨hz,j,x,hj,hx,q⟩:=vF h
 have z:=lB hj hz
 refine⟨⟨"str",_,typeIs_str _ _ _,PySem.F.slot_str_getitem.lookup⟩,.val S q (P.getItem_str (c:=x) ?_ ?_ ⟨rfl,rfl,rfl,_,rfl⟩)⟩
 ·rw[decide_eq_false (Int.not_lt.mpr z.1),decide_eq_false (Int.not_le.mpr z.2.1)];rfl
 ·show(seqIndex? i l.toArray.size).bind _=_
  rw[List.size_toArray,uk,hj]
  exact List.getElem?_toArray.trans hx
theorem EJ{l:List UInt8}(S:Sat c w μ)(h:0<=i/\w_ l i (kY μ K)):CD c w.F (.bytes l) u->Typed w.s u/\WP c [] A (getItem u (.int i t')) w (PK c K):=by
 rintro⟨t,rfl⟩
 obtain⟨hz,j,x,hj,hx,q⟩:=vF h.2
 have z:=lB hj hz
 have e:=z.2.2.1 h.1
 refine⟨⟨"bytes",_,PySem.W.typeIs_bytes _ _ _,FB.slot_bytes_getitem.lookup⟩,.val S q (getItem_bytes (yW hz) h.1 (Int.toNat_of_nonneg h.1▸Int.ofNat_lt.mpr (e▸z.2.2.2)) ⟨rfl,rfl,rfl,w.s.toks,?_⟩)⟩
 rw[e,List.getD_eq_getElem?_getD,hx]
 rfl
theorem BC{α:Type}{R:α->Value->Prop}{P:α->Prop}{l:List α}{vs:List Value}{t:Addr}(S:Sat c w μ)(k:∀x v,R x v->P x->∃y,CV c w.F w.a y v/\K y μ)(h:w_ l i P)(ht:IsTup w.h t vs.toArray)(d:Z R l vs):Typed w.s (.ref t)/\WP c [] A (getItem (.ref t) (.int i t')) w (PK c K):=by
 obtain⟨hz,j,x,hj,hx,q⟩:=vF h
 have z:=lB hj hz
 obtain⟨v,e,hv⟩:=d.get hx
 obtain⟨y,C,q⟩:=k x v hv q
 exact⟨⟨"tuple",_,ht.typeIs,slot_tuple_getitem.lookup⟩,.val S q (PyProof.Rows.getItem_tuple ht z.1 z.2.1 (j:=j) (by rw[List.size_toArray,<-d.len,uk,hj]) (List.getElem?_toArray.trans e) ⟨rfl,rfl,rfl,C⟩)⟩
theorem v_{α:Type}{R:α->Value->Prop}{P:α->Prop}{l:List α}{vs:List Value}{t:Addr}(S:Sat c w μ)(k:∀x v,R x v->P x->∃y,CV c w.F w.a y v/\K y μ)(h0:0<=i)(h:w_ l i P)(ht:w.h.IsList t vs.toArray)(d:Z R l vs):Typed w.s (.ref t)/\WP c [] A (getItem (.ref t) (.int i t')) w (PK c K):=by
 obtain⟨hz,j,x,hj,hx,q⟩:=vF h
 have z:=lB hj hz
 obtain⟨v,e,hv⟩:=d.get hx
 obtain⟨y,C,q⟩:=k x v hv q
 exact⟨⟨"list",_,ht.typeIs,slot_list_getitem.lookup⟩,.val S q (wpAny_getItem_list ht h0 z.2.1 (x:=v) (z.2.2.1 h0▸List.getElem?_toArray.trans e) ⟨rfl,rfl,rfl,C⟩)⟩
theorem kx{F:Heap}{ads:lI}(x:D)(v:Value)(h:CD c F x v)(q:kX μ K x):∃y,CV c F ads y v/\K y μ:=⟨.d x,h,q⟩
theorem kv{F:Heap}{ads:lI}(x:V)(v:Value)(h:CV c F ads x v)(q:kV μ K x):∃y,CV c F ads y v/\K y μ:=⟨x,h,q⟩
theorem F6{d:D}(S:Sat c w μ)(h:LX i μ K d):CD c w.F d u->Typed w.s u/\WP c [] A (getItem u (.int i t')) w (PK c K):=
 cJ d TO (fun x=>TO) (fun x=>TO) (fun l=>JD S) (fun l=>EJ S)
  (fun l h C=>by obtain⟨t,vs,rfl,ht,d⟩:=cp.mp C;exact BC S kx h (ht.keeps S.sub) d) (fun l h C=>by obtain⟨t,vs,rfl,ht,d⟩:=bf.mp C;exact v_ S kx h.1 h.2 (aE S.sub ht) d) (fun l=>TO) h
theorem KA{k:Nat}(S:Sat c w μ)(h:0<=i/\iy μ k (mI μ i K)):CV c w.F w.a (.loc k) u->Typed w.s u/\WP c [] A (getItem u (.int i t')) w (PK c K):=by
 rintro⟨t,o,rfl,e⟩
 obtain⟨h0,m,e2,h⟩:=h
 have M:=S.mo k _ m e e2
 revert M
 refine lY m (fun l h M=>?_) (fun l h M=>?_) (fun l=>TO) (fun l p=>TO) (fun l=>TO) h
 ·obtain⟨e,vs,hl,d⟩:=M;cases e;exact v_ S kx h0 h hl.isList d
 ·obtain⟨e,vs,hl,d⟩:=M;cases e;exact v_ S kv h0 h hl.isList d
theorem La(S:Sat c w μ)(h:Nz a i μ K):CV c w.F w.a a u->Typed w.s u/\WP c [] A (getItem u (.int i t')) w (PK c K):=
 mZ a (fun d=>F6 S) (fun k=>KA S) (fun x=>TO) (fun x=>TO) TO TO (fun x y=>TO) (fun l h C=>by obtain⟨t,vs,rfl,ht,d⟩:=hZ.mp C;exact BC S kv h (ht.keeps S.sub) d) h
end
theorem BK(lo:Option Int)(n:Nat):lo.elim 0 (clipAt n)=pf lo n:=by cases lo<;>rfl
theorem Bs(hi:Option Int)(n:Nat):hi.elim n (clipAt n)=rY hi n:=by cases hi<;>rfl
theorem AW{α:Type}(l:List α)(lo hi:Option Int):(l.drop (pf lo l.length)).take (rY hi l.length-pf lo l.length)=cut l lo hi:=by
 unfold cut
 rw[List.drop_take]
theorem Jd(hi:Option Int)(n:Nat):rY hi n<=n:=by
 cases hi with
 |none=>exact TG _
 |some i=>show clip i n<=n;unfold clip;dsimp only;omega
theorem BZ{α:Type}(l:List α)(lo hi:Option Int):(cut l lo hi).length<=l.length:=by
 unfold cut
 rw[List.length_drop]
 exact Ta (Nat.sub_le _ _) (List.length_take_le' _ _)
theorem qt(lo hi:Option Int)(n:Nat):Builtin.Str.strSliceIndices lo hi 1 n=(List.range (rY hi n-pf lo n)).map (pf lo n+·):=by
 rw[<-sliceRange_one]
 unfold Builtin.Str.strSliceIndices
 have h1:(1:Int)>0:=by decide
 simp only[h1,if_true]
 congr 1
 ·cases lo with
  |none=>rfl
  |some i=>show _=((clip i n:Nat):Int);unfold clip;dsimp only;split<;>omega
 ·cases hi with
  |none=>rfl
  |some i=>show _=((clip i n:Nat):Int);unfold clip;dsimp only;split<;>omega
theorem zV(l:List Nat)(lo hi:Option Int):(Builtin.Str.strSliceIndices lo hi 1 l.length).filterMap (l.toArray[·]?)=cut l lo hi:=by
 rw[qt,pick_run]
 exact AW l lo hi
theorem yZ{v:Value}{o:Option Int}(h:IsPart v o):∃q:Option (Int×Tok),v=partValue q/\o=q.map (·.1):=by
 cases h with
 |none=>exact⟨none,rfl,rfl⟩
 |int i t=>exact⟨some (i,t),rfl,rfl⟩
section
variable{c:Cx}{A:Around}{w:Wd}{μ:Mu}{K:KV}{a:D}{u vl vu:Value}{lo hi:Option Int}{sl:Addr}
theorem KW{l:List Nat}(h:(Builtin.Str.strSliceIndices lo hi 1 l.length).length=l.length):cut l lo hi=l:=by
 rw[qt,TN,List.length_range] at h
 have h3:=Jd hi l.length
 unfold cut
 by_cases h0:l.length=0
 ·cases List.eq_nil_of_length_eq_zero h0
  rw[List.take_nil,List.drop_nil]
 ·have h4:pf lo l.length=0:=by omega
  have h5:rY hi l.length=l.length:=by omega
  rw[h4,h5,List.drop_zero,List.take_length]
theorem I8{l:List Nat}(S:Sat c w μ)(pl:IsPart vl lo)(pu:IsPart vu hi)(hs:w.h.IsSliceOf sl vl vu .none)(q:l.length<=lim/\K (.str (cut l lo hi)) μ):CD c w.F (.str l) u->Typed w.s u/\WP c [] A (getItem u (.ref sl)) w (PK c K):=by
 rintro⟨t,rfl⟩
 obtain⟨ql,rfl,rfl⟩:=yZ pl
 obtain⟨qu,rfl,rfl⟩:=yZ pu
 refine⟨⟨"str",_,typeIs_str _ _ _,PySem.F.slot_str_getitem.lookup⟩,.val S q.2 (wpAny_getItem_str_slice (l:=ql) (u:=qu) (st:=none) hs rfl ?_)⟩
 unfold sliceMade
 refine post_val_or_str ?_
 have e:(if((Option.map (fun x:Int×Tok=>x.1) none).getD 1==1&&(slicePicked ⟨l.toArray⟩ ql qu none).length==Str.length ⟨l.toArray⟩)=true then(⟨l.toArray⟩:Str)else⟨((slicePicked ⟨l.toArray⟩ ql qu none).filterMap ((⟨l.toArray⟩:Str).cps[·]?)).toArray⟩)=⟨(cut l (ql.map (·.1)) (qu.map (·.1))).toArray⟩:=by
  split
  ·rename_i hc
   exact congrArg (fun l=>Str.mk (List.toArray l)) (KW (eq_of_beq (Bool.and_eq_true_iff.mp hc).2)).symm
  ·exact congrArg (fun l=>Str.mk (List.toArray l)) (zV l _ _)
 rw[e]
 exact⟨show(cut l _ _).toArray.size<=sizeLine from a0▸Ta (BZ _ _ _) q.1,fun t' k=>⟨rfl,rfl,rfl,_,rfl⟩⟩
theorem Er{l:List UInt8}(S:Sat c w μ)(pl:IsPart vl lo)(pu:IsPart vu hi)(hs:w.h.IsSliceOf sl vl vu .none)(q:l.length<=lim/\K (.bytes (cut l lo hi)) μ):CD c w.F (.bytes l) u->Typed w.s u/\WP c [] A (getItem u (.ref sl)) w (PK c K):=by
 rintro⟨t,rfl⟩
 have e:KBy.picked l.toArray lo hi=(cut l lo hi).toArray:=by
  rw[KBc.picked_eq]
  show((l.drop _).take _).toArray=_
  rw[List.size_toArray,BK,Bs,AW]
 refine⟨⟨"bytes",_,PySem.W.typeIs_bytes _ _ _,FB.slot_bytes_getitem.lookup⟩,.val S q.2 (getItem_meets (PySem.W.typeIs_bytes _ _ _) (by decide) FB.slot_bytes_getitem FB.entry_bytes_getitem (FB.args_bytes_getitem_2 _ _) (KBc.meets_slice2 l.toArray t _ pl pu) ⟨hs,?_,fun t' k=>?_⟩)⟩
 ·rw[e]
  exact a0▸Ta (BZ _ _ _) q.1
 ·rw[e]
  exact⟨rfl,rfl,rfl,_,rfl⟩
theorem E1{l:List D}(S:Sat c w μ)(pl:IsPart vl lo)(pu:IsPart vu hi)(hs:w.h.IsSliceOf sl vl vu .none)(q:l.length<=lim/\K (.d (.list (cut l lo hi))) μ)(C:CD c w.F (.list l) u):Typed w.s u/\WP c [] A (getItem u (.ref sl)) w (PK c K):=by
 obtain⟨t,vs,rfl,ht,d⟩:=bf.mp C
 have ht:=aE S.sub ht
 have e:slicePick vs.toArray lo hi none=(cut vs lo hi).toArray:=by
  rw[slicePick_plain]
  show((vs.drop _).take _).toArray=_
  rw[List.size_toArray,BK,Bs,AW]
 refine⟨⟨"list",_,ht.typeIs,slot_list_getitem.lookup⟩,ij<|wpAny_getItem_list_slice ht hs pl pu .none (fun h=>nomatch h) ?_ (by rw[List.size_toArray,<-d.len,a0];exact q.1)⟩
 rw[e]
 exact iF S (show jm c w.F (cut l lo hi) (cut vs lo hi) by unfold cut;rw[<-d.len];exact(d.take _).drop _) q.2
end
section
variable{prog:Program}{w:World}{A:Around}{E:Value->Shared->Prop}{s:Shared}
theorem DY(b n:Nat)(hb:b<=n):Builtin.Slice.sliceAdjust none (some (b:Int)) 1 (n:Int)=(0,(b:Int)):=by
 unfold Builtin.Slice.sliceAdjust
 have h1:¬((1:Int)<0):=by omega
 have h2:¬((b:Int)<0):=by omega
 simp only[h1,h2,if_false]
 congr 1
 omega
theorem Ez(b:Nat):Builtin.Slice.slicePlaces 0 (b:Int) 1=b:=by
 unfold Builtin.Slice.slicePlaces
 have h1:(1:Int)>0:=by omega
 simp only[h1,if_true,Int.ediv_one]
 split<;>omega
theorem Bb{sl:Addr}{b n:Nat}{u:Tok}{Q:Int×Int×Nat->Shared->Prop}(hs:s.heap.IsSliceOf sl .none (.int b u) .none)(hb:b<=n)(h:Q (0,1,b) s):
  wpAny (model prog w) A (Builtin.Slice.sliceApplied (.ref sl) (pure (n:Int))) Q E s:=by
 obtain⟨os,hos,hcs,hds⟩:=id hs
 unfold Builtin.Slice.sliceApplied Builtin.Slice.sliceFields
 refine wpAny_bind (wpAny_bind (wpAny_field hos hds (x:=.none) rfl (wpAny_bind (wpAny_field hos hds (x:=.int b u) rfl (wpAny_bind (wpAny_field hos hds (x:=.none) rfl (wpAny_pure ?_)))))))
 refine wpAny_bind (slicePart_none ?_)
 show wpAny _ _ (if((1:Int)==0)=true then _ else _) _ _ s
 rw[if_neg (by decide)]
 refine wpAny_bind (slicePart_none (wpAny_bind (slicePart_int (wpAny_bind (wpAny_pure ?_)))))
 show wpAny _ _ (match Builtin.Slice.sliceAdjust none (some (b:Int)) 1 (n:Int)with|(lo,hi)=>pure (lo,(1:Int),Builtin.Slice.slicePlaces lo hi 1)) _ _ s
 rw[DY b n hb]
 show wpAny _ _ (pure ((0:Int),(1:Int),Builtin.Slice.slicePlaces 0 (b:Int) 1)) _ _ s
 rw[Ez b]
 exact wpAny_pure h
theorem Ks(xs:Array Value)(b:Nat):((List.range b).filterMap fun(k:Nat)=>xs[((0:Int)+(k:Int)*1).toNat]?).toArray=(xs.toList.take b).toArray:=by
 have e:(fun(k:Nat)=>xs[((0:Int)+(k:Int)*1).toNat]?)=fun k=>xs[0+k]? :=by
  funext k
  have:((0:Int)+(k:Int)*1).toNat=0+k:=by omega
  rw[this]
 rw[e]
 have:=pick_run xs 0 b
 rw[List.filterMap_map] at this
 have e2:((fun x=>xs[x]?)∘fun x=>0+x)=fun k=>xs[0+k]? :=rfl
 rw[e2] at this
 rw[this,List.drop_zero]
theorem nF{t sl:Addr}{items:Array Value}{b:Nat}{u:Tok}{Q:Value->Shared->Prop}(ht:IsTup s.heap t items)(hs:s.heap.IsSliceOf sl .none (.int b u) .none)(hb:b<=items.size)
  (h0:b=items.size->Q (.ref t) s) (h:Q (.ref s.heap.objs.size) {s with heap:=s.heap.push {cls:=.type "tuple",data:=.seq (items.toList.take b).toArray}})
  (hsz:items.size<=sizeLine):wpAny (model prog w) A (getItem (.ref t) (.ref sl)) Q E s:=by
 have hz:sizeOk (.seq (items.toList.take b).toArray):=by
  show(items.toList.take b).toArray.size<=sizeLine
  rw[List.size_toArray,List.length_take,Array.length_toList]
  omega
 obtain⟨os,hos,hcs,hds⟩:=id hs
 have hTs:s.TypeIs (.ref sl) "slice":=⟨os,hos,hcs⟩
 unfold getItem
 try with_reducible refine wpAny_holding ?_
 first|refine wpAny_bind (wpAny_pure ?_)|skip
 refine wpAny_bind (wpAny_sequenceKey ht.typeIs (by decide) ?_)
 refine wpAny_bind (wpAny_callSpecial?_slot (name:=Str.ofString "__getitem__") ht.typeIs slot_tuple_getitem
  (wpAny_call_entry slot_tuple_getitem ht.typeIs entry_tuple_getitem ?_ (args_tuple_getitem _ _)))
 show wpAny _ _ (Builtin.Tuple.tupleItemsOf (.ref t)>>=_) _ _ s
 refine wpAny_bind (tupleItemsOf_ ht ?_)
 refine wpAny_bind (wpAny_typeOf hTs ?_)
 rw[if_pos (by decide)]
 refine wpAny_bind (Bb hs hb ?_)
 have exact_:wpAny (model prog w) A.in1 (Builtin.Tuple.tupleExact (List.filterMap (fun k:Nat=>items[((0:Int)+(k:Int)*1).toNat]?) (List.range b)).toArray>>=fun v=>ret v)
   (fun fin s'=>∃v,fin=Fin.done (.ret v)/\Q v s') E s:=by
  rw[Ks]
  first
   |exact wpAny_bind (m:=Builtin.Tuple.tupleExact _) (wpAny_newObj_type (wpAny_pure ⟨_,rfl,h⟩) hz)
   |exact wpAny_bind (m:=Builtin.Tuple.tupleExact _) (wpAny_newObj_type (wpAny_bind (wpAny_pure (wpAny_pure ⟨_,rfl,h⟩))) hz)
 refine wpAny_mono (Q:=fun fin s'=>∃v,fin=Fin.done (.ret v)/\Q v s') ?_ (fun fin s' q=>?_) fun _ _ q=>q
 ·dsimp only
  by_cases hb2:b=items.size
  ·have e:((0:Int)==0&&(1:Int)==1&&b==items.size)=true:=by simp[hb2]
   rw[if_pos e]
   refine wpAny_bind ?_
   unfold Builtin.Tuple.tupleIsExact
   refine wpAny_bind (wpAny_typeOf ht.typeIs (wpAny_pure ?_))
   rw[if_pos (by decide)]
   exact wpAny_bind (wpAny_rule (wpAny_pure ⟨_,rfl,h0 hb2⟩))
  ·have e:¬(((0:Int)==0&&(1:Int)==1&&b==items.size)=true):=by simp[hb2]
   rw[if_neg e]
   exact exact_
 ·obtain⟨v,e,q⟩:=q
  exact⟨v,e,wpAny_pure q⟩
end
section
variable{c:Cx}{A:Around}{w:Wd}{μ:Mu}{K:KV}{a:D}{u vl vu:Value}{lo hi:Option Int}{sl:Addr}
theorem Je{l:List D}(S:Sat c w μ)(pl:IsPart vl lo)(pu:IsPart vu hi)(hs:w.h.IsSliceOf sl vl vu .none)(h:PE l lo hi (kV μ K))(C:CD c w.F (.tuple l) u):Typed w.s u/\WP c [] A (getItem u (.ref sl)) w (PK c K):=by
 obtain⟨t,vs,rfl,ht,d⟩:=cp.mp C
 have ht:=ht.keeps S.sub
 cases pl with
 |int i t=>exact h.elim
 |none=>cases pu with
  |none=>exact h.elim
  |int i t'=>
   obtain⟨h0,hk,hz,q⟩:=h
   rw[<-Int.toNat_of_nonneg h0] at hs
   refine⟨⟨"tuple",_,ht.typeIs,slot_tuple_getitem.lookup⟩,ij<|nF ht hs (by rw[List.size_toArray,<-d.len];exact hk) (fun e=>⟨w,rfl,.rfl,.of (v:=.d (.tuple l)) S C ?_⟩) (qR S (d.take _) q) (by rw[List.size_toArray,<-d.len,a0];exact hz)⟩
   rw[e,List.size_toArray,<-d.len,List.take_length] at q
   exact q
theorem JF(S:Sat c w μ)(pl:IsPart vl lo)(pu:IsPart vu hi)(hs:w.h.IsSliceOf sl vl vu .none)(h:OB a lo hi (kV μ K)):CD c w.F a u->Typed w.s u/\WP c [] A (getItem u (.ref sl)) w (PK c K):=
 cJ a TO (fun x=>TO) (fun x=>TO) (fun l=>I8 S pl pu hs) (fun l=>Er S pl pu hs) (fun l=>Je S pl pu hs) (fun l=>E1 S pl pu hs) (fun l=>TO) h
end
end
section
set_option exponentiation.threshold 1000
section
variable{c:Cx}{A:Around}{w:Wd}{μ:Mu}{K:KV}{a:V}{u:Value}{us:List Value}{l:List V}{k:Nat}
theorem Z.un{α β:Type}{R:α->β->Prop}{a:α}{m:List β}(h:Z R [a] m):∃b,m=[b]/\R a b:=h.elim fun b h=>h.elim fun bs h=>⟨b,h.1.trans (congrArg _ h.2.2),h.2.1⟩
theorem tT{P:aI->Prop}(S:Sat c w μ)(h:iy μ k P)(C:CV c w.F w.a (.loc k) u):∃m p,μ[k]? =some m/\w.a[k]? =some p/\u=.ref p.1/\MO c w.F w.a w.h p m/\P m:=
 C.elim fun a C=>C.elim fun o C=>h.elim fun m h=>⟨m,(a,o),h.1,C.2,C.1,S.mo k _ m C.2 h.1,h.2⟩
theorem KY{P:List D->Prop}(S:Sat c w μ)(h:iy μ k (mL P))(C:CV c w.F w.a (.loc k) u):∃l t vs,μ[k]? =some (.list l)/\w.a[k]? =some (t,t)/\u=.ref t/\w.h.PlainList t vs.toArray/\jm c w.F l vs/\P l:=by
 obtain⟨m,p,e1,e2,e3,M,q⟩:=tT S h C
 revert e1 M
 exact lY m (fun l q e1 M=>M.2.elim fun vs M'=>⟨l,p.1,vs,e1,e2.trans (congrArg some (Prod.ext rfl M.1.symm)),e3,M.1▸M'.1,M'.2,q⟩) (fun l=>TO) (fun l=>TO) (fun l p=>TO) (fun l=>TO) q
theorem Of{P:List UInt8->Prop}(S:Sat c w μ)(h:iy μ k (mY P))(C:CV c w.F w.a (.loc k) u):∃l t,μ[k]? =some (.eX l)/\w.a[k]? =some (t,t)/\u=.ref t/\w.h.get? t=some {cls:=.type "bytearray",data:=.bytearray l.toArray}/\P l:=by
 obtain⟨m,p,e1,e2,e3,M,q⟩:=tT S h C
 revert e1 M
 exact lY m (fun l=>TO) (fun l=>TO) (fun l q e1 M=>⟨l,p.1,e1,e2.trans (congrArg some (Prod.ext rfl M.1.symm)),e3,M.1▸M.2,q⟩) (fun l p=>TO) (fun l=>TO) q
theorem G9{P:List D->Prop}(S:Sat c w μ)(h:ta a (fun d=>dL d P) fun k=>iy μ k (mL P)):CV c w.F w.a a u->∃l t vs,u=.ref t/\w.h.IsList t vs.toArray/\jm c w.F l vs/\P l:=
 qh a (fun d h=>oP d (fun l q C=>by obtain⟨t,vs,e,h1,h2⟩:=bf.mp C;exact⟨l,t,vs,e,aE S.sub h1,h2,q⟩) h) (fun k h C=>by obtain⟨l,t,vs,e1,e2,e3,h1,h2,q⟩:=KY S h C;exact⟨l,t,vs,e3,h1.isList,h2,q⟩) h
theorem call_one{f:Value}{P:V->Prop}{Q:Value->Wd->Prop}(h:one l P)(k:∀v u,P v->CV c w.F w.a v u->WP c [] A (call f [u]) w Q):fC c w.F w.a l us->WP c [] A (call f us) w Q:=
 jh l (fun v h C=>C.un.elim fun u e=>e.1▸k v u h e.2) h
theorem zC{f:Value}{P:V->V->Prop}{Q:Value->Wd->Prop}(h:two l P)(k:∀v v' u u',P v v'->CV c w.F w.a v u->CV c w.F w.a v' u'->WP c [] A (call f [u,u']) w Q):fC c w.F w.a l us->WP c [] A (call f us) w Q:=
 vo l (fun v v' h C=>Exists.elim C fun u e=>e.elim fun us e=>(Z.un e.2.2).elim fun u' e'=>e.1▸e'.1▸k v v' u u' h e.2.1 e'.2) h
theorem sd{α:Type}{l:List α}{n:Nat}(S:Sat c w μ)(q:z9 μ K l)(e:n=l.length)(h:(n:Int)<2^63->n<=1099511627776->∀R:Value->Shared->Prop,(∀t k,R (.int (n:Int) t) {w.s with toks:=k})->wpAny c.M A (call (.builtin "len") [u]) R xd w.s):WP c [] A (call (.builtin "len") [u]) w (PK c K):=
 .val S q.2 (h (e▸uO q.1) (e▸yW q.1) _ fun t k=>⟨rfl,rfl,rfl,t,e▸rfl⟩)
theorem MT(S:Sat c w μ)(h:ta a (LZ μ K) fun k=>iy μ k (mL (z9 μ K))):CV c w.F w.a a u->WP c [] A (call (.builtin "len") [u]) w (PK c K):=
 qh a (fun d h=>cJ d TO (fun l=>TO) (fun l=>TO) (fun l q C=>C.elim fun t e=>e▸sd S q (List.size_toArray ..) fun h1 h2 R k=>P.len_str (Int.not_le.mpr h1) (k _ _))
   (fun l q C=>C.elim fun t e=>e▸sd S q (List.size_toArray ..) fun h1 h2 R k=>len_bytes h2 (k _ _))
   (fun l q C=>by obtain⟨t,vs,rfl,ht,d⟩:=cp.mp C;exact sd S q ((List.size_toArray ..).trans d.len.symm) fun h1 h2 R k=>len_tuple (ht.keeps S.sub) h1 (k _ _))
   (fun l q C=>by obtain⟨t,vs,rfl,ht,d⟩:=bf.mp C;exact sd S q ((List.size_toArray ..).trans d.len.symm) fun h1 h2 R k=>Calls.call_len_list (aE S.sub ht) h1 (k _ _)) (fun l=>TO) h)
  (fun k h C=>by obtain⟨l,t,vs,e1,e2,rfl,ht,d,q⟩:=KY S h C;exact sd S q ((List.size_toArray ..).trans d.len.symm) fun h1 h2 R k=>Calls.call_len_list ht.isList h1 (k _ _)) h
theorem NI{i:Int}(S:Sat c w μ)(q:0<=i/\i<1114112/\K (.str [i.toNat]) μ):CD c w.F (.int i) u->WP c [] A (call (.builtin "chr") [u]) w (PK c K):=by
 rintro⟨t,rfl⟩
 refine .val S q.2.2 (P.chr_of_int ?_ ⟨rfl,rfl,rfl,_,rfl⟩)
 rw[decide_eq_false (Int.not_lt.mpr q.1),decide_eq_false (Int.not_lt.mpr (Int.le_of_lt_add_one q.2.1))]
 rfl
theorem NG{i:Int}(S:Sat c w μ)(q:A_ μ K i.natAbs):CD c w.F (.int i) u->WP c [] A (call (.builtin "abs") [u]) w (PK c K):=by
 rintro⟨t,rfl⟩
 exact .val S q (call_abs_int fun u tk=>⟨rfl,rfl,rfl,_,congrArg (Value.int · u) (by split<;>omega)⟩)
theorem NX{i j:Int}{u':Value}(hh:A.handled=none)(S:Sat c w μ)(q:A_ μ K (min i j)):CD c w.F (.int i) u->CD c w.F (.int j) u'->WP c [] A (call (.builtin "min") [u,u']) w (PK c K):=by
 rintro⟨t,rfl⟩ ⟨t',rfl⟩
 refine .ML S q (min_two_ints hh fun h' tk hk=>⟨rfl,rfl,hk,?_⟩)
 by_cases h:j<i
 ·rw[if_pos h];exact⟨_,congrArg (Value.int · _) (by omega)⟩
 ·rw[if_neg h];exact⟨_,congrArg (Value.int · _) (by omega)⟩
theorem range_all(bs:List Bool):((List.range bs.length).all fun i=>(bs[i]?).getD true)=bs.all id:=by
 rw[Bool.eq_iff_iff,List.all_eq_true,List.all_eq_true]
 refine⟨fun h x hx=>?_,fun h i hi=>?_⟩
 ·obtain⟨i,hi,rfl⟩:=List.getElem_of_mem hx
  have:=h i (List.mem_range.mpr hi)
  rw[List.getElem?_eq_getElem hi] at this
  exact this
 ·rw[List.getElem?_eq_getElem (List.mem_range.mp hi)]
  exact h _ (List.getElem_mem _)
theorem NT{bs:List Bool}(hh:A.handled=none)(S:Sat c w μ)(q:lV μ K (bs.all id))(C:CD c w.F (.list (bs.map .bool)) u):WP c [] A (call (.builtin "all") [u]) w (PK c K):=by
 obtain⟨t,vs,rfl,ht,d⟩:=bf.mp C
 have d:=Z.map.mp d
 have ht:=aE S.sub ht
 have hlt:t<w.h.objs.size:=by obtain⟨o,e,h⟩:=ht;exact Heap.lt_size e
 refine .ML S q (call_all_walk (wpAny_pyIter_list ht ⟨w.h.objs.size,[w.h.objs.size,t],[w.h.objs.size],vs.toArray.size,_,_,fun i=>(bs[i]?).getD true,rfl,Walks.list (A:=A.in1) hh _ t (Nat.ne_of_lt hlt) vs.toArray,
  ⟨⟨_,Heap.get?_push_size _ rfl,rfl,rfl⟩,ht.push _⟩,fun i v s' Q' E' hP hQ=>?_,fun h' tk hk=>⟨rfl,rfl,fun b x e=>hk b x (fun hm=>?_) (Heap.get?_push_of_some _ e),?_⟩⟩))
 ·have hi:i<bs.length:=d.len▸(List.getElem?_eq_some_iff.mp (List.getElem?_toArray.symm.trans hP)).1
  obtain⟨b,e,h⟩:=d.get (List.getElem?_eq_getElem hi)
  cases (List.getElem?_toArray.symm.trans hP).symm.trans e
  cases h
  exact wpAny_truthy_bool ((show((bs[i]?).getD true)=bs[i]from congrArg (fun o:Option Bool=>o.getD true) (List.getElem?_eq_getElem hi)).subst (motive:=fun b=>Q' b s') hQ)
 ·exact Nat.lt_irrefl _ (List.mem_singleton.mp hm▸Heap.lt_size e)
 ·rw[List.size_toArray,<-d.len,range_all]
  exact rfl
theorem KG(n:Nat):(Str.ofString (toString (n:Int)))=⟨(dec n).toArray⟩:=by
 rw[show toString (n:Int)=String.ofList (Nat.toDigits 10 n)from rfl,Str.ofString_eq_toList,String.toList_ofList]
 rfl
theorem Me{i:Int}(S:Sat c w μ)(q:0<=i/\i<10^100/\K (.str (dec i.toNat)) μ):CD c w.F (.int i) u->WP c [] A (call (.type "str") [u]) w (PK c K):=by
 rintro⟨t,rfl⟩
 obtain⟨h0,h1,q⟩:=q
 have hb:i.natAbs.log2<1920:=Nat.lt_of_le_of_lt (wy (Ta (by omega) Am)) (by decide)
 refine .val S q (P.str_of_int hb ⟨rfl,rfl,rfl,_,congrArg (Value.str · _) ?_⟩)
 rw[<-KG,Int.toNat_of_nonneg h0]
theorem MA{i:Int}(S:Sat c w μ)(q:A_ μ K i):CD c w.F (.int i) u->WP c [] A (call (.type "int") [u]) w (PK c K):=by
 rintro⟨t,rfl⟩
 exact .val S q (call_int_int ⟨rfl,rfl,rfl,_,rfl⟩)
theorem MI(S:Sat c w μ)(h:ta a (fun d=>dL d (J4 μ K)) fun k=>iy μ k (mL (J4 μ K)))(C:CV c w.F w.a a u):WP c [] A (call (.type "tuple") [u]) w (PK c K):=by
 obtain⟨l,t,vs,rfl,ht,d,q⟩:=G9 S h C
 refine ij (call_tuple_list ht (fun h' hk=>?_) (by rw[List.size_toArray,<-d.len,a0];exact q.1))
 obtain⟨w',e,x,y⟩:=qR (w:=⟨w.F,w.a,{w.s with heap:=h'}⟩) (S.keep hk) d q.2
 exact⟨w',e,(Step.keeps (s:={w.s with heap:=h'}) rfl rfl hk).trans x,y⟩
theorem Gs(G:Good c){x:D}(S:Sat c w μ)(C:CD c w.F x u):∃H:Heap->Prop,KitX c.K u (JH c x) H/\H w.h/\u≠.builtin "__main__.__loader__#opaque":=by
 cases x with
 |none=>cases C;exact⟨_,kitx_none,trivial,fun e=>nomatch e⟩
 |bool b=>cases C;exact⟨_,kitx_bool,trivial,fun e=>nomatch e⟩
 |int i=>obtain⟨t,rfl⟩:=C;exact⟨_,kitx_int,trivial,fun e=>nomatch e⟩
 |str l=>obtain⟨t,rfl⟩:=C;exact⟨_,kitx_str,trivial,fun e=>nomatch e⟩
 |bytes l=>obtain⟨t,rfl⟩:=C;exact⟨_,kitx_bytes,trivial,fun e=>nomatch e⟩
 |tuple l=>obtain⟨t,vs,rfl,h,d⟩:=cp.mp C;exact⟨_,kitx_tuple,(h.keeps S.sub).typeIs (s:=w.s),fun e=>nomatch e⟩
 |list l=>obtain⟨t,vs,rfl,h,d⟩:=bf.mp C;exact⟨_,kitx_list,(aE S.sub h).typeIs (s:=w.s),fun e=>nomatch e⟩
 |atom l=>obtain⟨t,rfl,dx,x,h,r⟩:=C;exact⟨_,kitx_own G.hg G.atom.hd G.ha G.hn G.ht G.hm,⟨S.sub _ _ h,rfl,rfl,S.sub _ _ r⟩,fun e=>nomatch e⟩
theorem Kg{F:Heap}(l:List UInt8):∀vs,jm c F (l.map fun x=>D.int (x.toNat:Int)) vs->IntsAre vs (l.map fun x=>(x.toNat:Int)):=by
 induction l with
 |nil=>exact fun vs e=>e▸.nil
 |cons x l ih=>exact fun vs e=>Exists.elim e fun u e=>e.elim fun us e=>e.2.1.elim fun t h=>e.1▸h▸.cons _ _ (ih us e.2.2)
theorem zS(l:List UInt8):byteArr (l.map fun x=>(x.toNat:Int))=l.toArray:=by
 unfold byteArr
 rw[List.map_map]
 exact congrArg List.toArray ((List.map_congr_left fun x h=>(UInt8.ofNat_toNat:UInt8.ofNat x.toNat=x)).trans (List.map_id l))
theorem NJ{l:List UInt8}(hh:A.handled=none)(S:Sat c w μ)(q:Dt μ K l)(C:CD c w.F (.list (l.map fun x=>D.int (x.toNat:Int))) u):WP c [] A (call (.type "bytes") [u]) w (PK c K):=by
 obtain⟨t,vs,rfl,h,d⟩:=bf.mp C
 refine .ML S q.2 (call_bytes_ints (aE S.sub h) (Kg l vs d) (fun n hn=>?_) (by rw[<-d.len,TN,a0];exact q.1) hh fun h' t k hk=>⟨rfl,rfl,hk,_,congrArg (Value.bytes · _) (zS l)⟩)
 obtain⟨x,hx,rfl⟩:=List.mem_map.mp hn
 exact⟨Int.natCast_nonneg _,Int.ofNat_lt.mpr (UInt8.toNat_lt x)⟩
theorem Hm{Q:B->Prop}{P:V->Prop}(v:V)(f:∀b,Q b->P (.bi b))(h:Qv v Q):P v:=mZ (P:=P) v (fun a=>TO) (fun a=>TO) (fun a=>TO) f TO TO (fun a b=>TO) (fun a=>TO) h
theorem HC(G:Good c){x:D}{k:N1}{v:Value}(S:Sat c w μ)(hk:k≠.cR)(e:v=PM c k)(q:lV μ K (x.isA k))(C1:CD c w.F x u):WP c [] A (call (.builtin "isinstance") [u,v]) w (PK c K):=by
 obtain⟨H,Z,hH,hx⟩:=Gs G S C1
 exact e▸.val S q (kia_one Z (fun b o e=>S.sub _ _ (S.base _ _ (G.KX b o e))) hH (G.one x k hk) hx fun tk=>⟨rfl,rfl,rfl,rfl⟩)
theorem Pz(G:Good c){x:D}{t:Addr}(S:Sat c w μ)(ht:IsTup w.F t #[.type "list",.type "tuple"])(q:lV μ K (x.isA .cR))(C1:CD c w.F x u):WP c [] A (call (.builtin "isinstance") [u,.ref t]) w (PK c K):=by
 obtain⟨H,Z,hH,hx⟩:=Gs G S C1
 obtain⟨⟨oc,od,dt,sl⟩,ho,hc,n,hd⟩:=ht.keeps S.sub
 cases hc
 cases hd
 exact .val S q (kia_tup (its:=[.type "list",.type "tuple"]) Z (fun b o e=>S.sub _ _ (S.base _ _ (G.KX b o e))) hH ho (G.two x) hx fun tk=>⟨rfl,rfl,rfl,rfl⟩)
theorem QD(G:Good c){x:D}{b:B}{v:Value}(S:Sat c w μ)(h:Sl b fun k=>lV μ K (x.isA k))(C1:CD c w.F x u)(C2:v=ER b):WP c [] A (call (.builtin "isinstance") [u,v]) w (PK c K):=by
 revert h C2
 cases b with
 |u9=>exact fun h e=>HC G S (k:=.int) nofun e h C1
 |cV=>exact fun h e=>HC G S (k:=.bytes) nofun e h C1
 |_=>exact TO
theorem L5{b:B}{Q:Prop}(h:Sp b Q):b=.jV/\Q:=by revert h;cases b with|jV=>exact fun h=>⟨rfl,h⟩|_=>exact TO
theorem Mw{b:B}{Q:Prop}(h:So b Q):b=.bF/\Q:=by revert h;cases b with|bF=>exact fun h=>⟨rfl,h⟩|_=>exact TO
theorem Es(G:Good c){x:D}{v:Value}(S:Sat c w μ)(h:RY a fun k=>lV μ K (x.isA k))(C1:CD c w.F x u):CV c w.F w.a a v->WP c [] A (call (.builtin "isinstance") [u,v]) w (PK c K):=
 mZ a (fun x=>TO) (fun x=>TO) (fun x=>TO) (fun b h C2=>QD G S h C1 C2) (fun h C2=>HC G S (k:=.atom) nofun C2 h C1) TO (fun x y=>TO)
  (fun l h C2=>vo l (fun a b h C2=>by
   refine Hm (P:=fun a=>CV c w.F w.a (.tup [a,b]) v->_) a (fun a h C2=>?_) h C2
   obtain⟨rfl,h⟩:=L5 h
   refine Hm (P:=fun b=>CV c w.F w.a (.tup [.bi .jV,b]) v->_) b (fun b h C2=>?_) h C2
   obtain⟨rfl,h⟩:=Mw h
   obtain⟨t,vs,rfl,h1,v1,us,rfl,rfl,v2,us,rfl,rfl,rfl⟩:=hZ.mp C2
   exact Pz G S h1 h C1) h C2) h
end
end
section
set_option linter.deprecated false
theorem l5:Manifest.owners.lookup (String.ofList ['y','a','r','r','a','e','t','y','b'].reverse)=some Manifest.sig_bytearray:=by kernel_rfl
theorem H3:mroOf (.type "bytearray")=pure [.type "bytearray",.type "object"]:=by rw[mroOf_type];kernel_rfl
theorem EC:typeLookup (.type "bytearray") "__new__"=pure (some (.builtin "bytearray.__new__")):=by rw[typeLookup_type,builtinLookup_eq_fast];kernel_rfl
theorem AK:isSubtype (.type "bytearray") (.type "bytearray")=pure true:=by rw[isSubtype_type];kernel_rfl
theorem oD:TypeCalled "bytearray" "bytearray.__new__" "bytearray.__init__":=
 ⟨by decide+kernel,by decide+kernel,⟨_,_,H3⟩,madeBy_type H3 EC (by decide+kernel),by decide+kernel,AK,
  .of (owner:="bytearray") (n:="__init__") (by rw[typeLookup_type,builtinLookup_eq_fast];kernel_rfl) (by decide+kernel) (by decide+kernel) (by decide+kernel) (by first|exact .inl (by decide+kernel)|exact .inr (by decide+kernel)) (by rw[isSubtype_type];kernel_rfl)⟩
theorem Nk:entryFor table "bytearray.__new__"=some Builtin.«list.__new__» :=entryFor_alias (id':="list.__new__") (by kernel_rfl) rfl (by decide+kernel) (by kernel_rfl)
theorem CF:entryFor table "bytearray.__init__"=some Builtin.«bytearray.__init__» :=entryFor_of_tree (by kernel_rfl)
theorem za:plainId "bytearray.__new__"=true:=by decide+kernel
set_option maxRecDepth 1000000 in
set_option maxHeartbeats 4000000 in
theorem Hg:("bytearray.__new__".splitOn ".__new__").headD ""="bytearray":=by simp+decide [String.splitOn,String.splitOnAux]
theorem Ho:typeLookup (.type "bytes") "__bytes__"=pure (some (.builtin "bytes.__bytes__")):=by rw[typeLookup_type,builtinLookup_eq_fast];kernel_rfl
theorem HN:typeLookup (.type "bytearray") (Str.ofString "__release_buffer__")=pure (some (.builtin "bytearray.__release_buffer__")):=by rw[typeLookup_type,builtinLookup_eq_fast];kernel_rfl
theorem qY:typeLookup (.type "bytearray") (Str.ofString "__buffer__")=pure (some (.builtin "bytearray.__buffer__")):=by rw[typeLookup_type,builtinLookup_eq_fast];kernel_rfl
theorem Jo:typeLookup (.type "bytearray") (Str.ofString "__bytes__")=pure none:=by rw[typeLookup_type,builtinLookup_eq_fast];kernel_rfl
theorem Jx:typeLookup (.type "bytearray") (Str.ofString "__index__")=pure none:=by rw[typeLookup_type,builtinLookup_eq_fast];kernel_rfl
noncomputable abbrev bx(b:Array UInt8):Obj:={cls:=.type "bytearray",data:=.bytearray b}
section
variable{prog:Program}{w:World}{A:Around}{E:Value->Shared->Prop}{s:Shared}{a:Addr}{b d:Array UInt8}{t:Tok}
theorem LG{id:String}{args:Args}{b:Builtin}{R:Flow->Shared->Prop}(hb:entryFor table id=some b)(hnd:j5 (.builtin id args)=false)(h:wA (model prog w) (A.under (.builtin id args)) (b args) (Rt (model prog w) A R) s):cA (model prog w) A (.builtin id args) R s:=
 fZ (show wA _ _ (match entryFor table id with|some b=>b args|none=>unsupported ((withoutEnding? id "#data").getD id)) _ s by rw[hb];exact h) hnd
theorem we{T id:String}{name:Str}{self:Value}{rest:List Value}{b:Builtin}{Q:Value->Shared->Prop}(slot:Slot T name id)(hT:s.TypeIs self T)(hd:j5 (.builtin id ⟨self::rest,[]⟩)=false)(hb:entryFor table id=some b)(ha:argsOk id ⟨self::rest,[]⟩)
  (h:wA (model prog w) A.in1 (b ⟨self::rest,[]⟩) (fun fin s'=>∃v,fin=Fin.done (.ret v)/\Q v s') s):wA (model prog w) A (call (.builtin id) (self::rest)) Q s:=by
 refine qe (fZ (show wA _ A.in1 (do checkBuiltinCall id ⟨self::rest,[]⟩;again (.builtin id ⟨self::rest,[]⟩)) _ s from bw (slot.check _ _ _ _ _ _ _ _ hT ha (aH ⟨plainId_quiet slot.plain _,LG hb hd ?_⟩))))
 rw[Around.under_plainId slot.plain _]
 exact aG h fun fin s' q=>q.elim fun v q=>q.1▸⟨v,rfl,q.2⟩
theorem DW{T newId initId:String}{args:List Value}{Q Q₁:Value->Shared->Prop}(ft:TypeCalled T newId initId)(hct:checkTypeCall T ⟨args,[]⟩=pure ())
  (hnd:j5 (.builtin "type.__call__" ⟨.type T::args,[]⟩)=false)
  (hnew:wpAny (model prog w) A.in1 (call (.builtin newId) (.type T::args)) Q₁ xd s)
  (hnext:∀obj s₁,Q₁ obj s₁->s₁.TypeIs obj T/\wA (model prog w) A.in1 (call (.builtin initId) (obj::args)) (fun r s₂=>r=.none/\Q obj s₂) s₁):wA (model prog w) A (call (.type T) args) Q s:=by
 obtain⟨c0,tl,hmro⟩:=ft.mro
 refine qe (fZ (show wA _ _ (callAny (.type T) _) _ _ from aH ⟨Code.quiet_builtin _ (by decide+kernel),LG F.entry_type_call hnd ?_⟩))
 rw[Around.under_plain (weight_type_call_type T args []) rfl]
 unfold Builtin.«type.__call__»
 have h1:=ft.notType
 have h2:=ft.canCreate
 dsimp only
 simp only[h1,Bool.false_eq_true,if_false]
 simp only[h2,Bool.false_eq_true,if_false]
 refine aj (uh hct (aj (uh hmro ?_)))
 simp only[List.isEmpty_cons,Bool.false_eq_true,if_false]
 refine aj (uh ft.made ?_)
 dsimp only
 refine aj (aH (aj (bj (aG (ij hnew) fun obj s₁ hq=>?_))))
 obtain⟨hT,hi⟩:=hnext obj s₁ hq
 refine bw (wpAny_isInstance hT ft.sub ?_)
 simp only[Bool.not_true,Bool.false_eq_true,if_false]
 unfold callSpecial?
 refine aj (bj (bw (wpAny_specialOf hT ft.init.lookup ?_)))
 dsimp only
 refine bj (aj (uh (ft.init.bind obj) ?_))
 dsimp only
 refine aj (aG hi fun r s₂ hr=>?_)
 obtain⟨rfl,hq⟩:=hr
 exact aH (aH ⟨_,rfl,hq⟩)
theorem jO{Q:Bool->Shared->Prop}(ho:s.heap.get? a=some (bx b))(h:Q false s):wA (model prog w) A (Builtin.Bytes.exported (.ref a)<||> (do return (<-Builtin.Bytes.exportsOf (.ref a))>0)) Q s:=by
 refine aj (vP ?_)
 show wA _ _ (Builtin.Bytes.exportsOf (.ref a)>>=_) _ _
 unfold Builtin.Bytes.exportsOf
 exact aj (bw (wpAny_load ho (aH (aH h))))
theorem my{f:Array UInt8->Array UInt8}{Q:Unit->Shared->Prop}(ho:s.heap.get? a=some (bx b))(hz:(f b).size<=sizeLine)
  (h:∀h',h'.get? a=some (bx (f b))->Heap.SameBut a s.heap h'->Q () {s with heap:=h'}):wpAny (model prog w) A (Builtin.Bytes.write (.ref a) f) Q E s:=by
 show wpAny _ _ (updateBytearray a f) _ _ _
 unfold updateBytearray
 refine wpAny_bind (wpAny_load ho ?_)
 have e:(s.heap.update a (Obj.mapBytearray f)).get? a=some (bx (f b)):=Heap.get?_update_self _ ho rfl
 exact wpAny_bind (wpAny_update ho (wpAny_lookBehind e (if_neg (Nat.not_lt.mpr hz)) (h _ e (Heap.SameBut.update ..))))
theorem xr{args:List Value}{Q₁:Value->Shared->Prop}(hc:checkBuiltinCall "bytearray.__new__" ⟨.type "bytearray"::args,[]⟩=pure ())
  (h:Q₁ (.ref s.heap.objs.size) {s with heap:=s.heap.push {cls:=.type "bytearray",data:=.bytearray #[]}}):
  codeAny (model prog w) A (.call (.builtin "bytearray.__new__") ⟨.type "bytearray"::args,[]⟩) (wants Q₁ E) s:=by
 refine codeAny_of_tree ?_
 show wpAny _ A.in1 (do checkBuiltinCall "bytearray.__new__" ⟨.type "bytearray"::args,[]⟩;again (.builtin "bytearray.__new__" ⟨.type "bytearray"::args,[]⟩)) _ _ s
 refine wpAny_bind (wpAny_of_eq hc (wpAny_pure ⟨plainId_quiet za _,codeAny_builtin_stack Nk rfl fun p st=>?_⟩))
 rw[Around.under_plainId za _]
 have hsub:=AK
 have hown:=Hg
 obtain⟨hp,g,d,tk,os⟩:=s
 simp only[hown]
 wp_walk
 exact h
theorem yt{name id:String}{Q:Bool->Shared->Prop}(ho:s.heap.get? a=some (bx b))(hl:typeLookup (.type "bytearray") (Str.ofString name)=pure (some (.builtin id)))(h1:(id.endsWith ("."++name))=true)(h2:id.dropRight (name.length+1)="bytearray")(h:Q true s):wpAny (model prog w) A (Builtin.Bytes.slotIsOwn (.ref a) name) Q E s:=by
 unfold Builtin.Bytes.slotIsOwn
 refine wpAny_bind (wpAny_specialOf ⟨_,ho,rfl⟩ hl ?_)
 dsimp only
 rw[h1,h2]
 exact wpAny_isInstance (T:="bytearray") (b:=true) ⟨_,ho,rfl⟩ AK h
theorem HB{Q:Bool->Shared->Prop}(ho:s.heap.get? a=some (bx b))(h:Q false s):wpAny (model prog w) A (Builtin.Bytes.ownRelease (.ref a)) Q E s:=
 wpAny_bind (m:=Builtin.Bytes.slotIsOwn _ _) (yt ho HN (by decide+kernel) (by decide+kernel) (wpAny_pure h))
theorem Hv(x:Value):argsOk "bytearray.__init__" ⟨[x],[]⟩:=by
 unfold argsOk
 rw[signature?_of (id:="bytearray.__init__") (n:=['_','_','t','i','n','i','_','_']) (o:=['y','a','r','r','a','e','t','y','b']) (by kernel_rfl) l5]
 kernel_rfl
theorem Fg(x y:Value):argsOk "bytearray.__init__" ⟨[x,y],[]⟩:=by
 unfold argsOk
 rw[signature?_of (id:="bytearray.__init__") (n:=['_','_','t','i','n','i','_','_']) (o:=['y','a','r','r','a','e','t','y','b']) (by kernel_rfl) l5]
 kernel_rfl
noncomputable def Ic(a:Addr)(k:Sem Fin):Sem Fin:=do
 if<-Builtin.Bytes.ownRelease (.ref a)then unsupported "bytearray.__init__:own-__release_buffer__-on-a-subclass"
 if<-Builtin.Bytes.exported (.ref a)<||> (do return (<-Builtin.Bytes.exportsOf (.ref a))>0)then
  if !(<-Builtin.Bytes.payload (.ref a)).isEmpty then Builtin.Bytes.checkResize (.ref a)
  unsupported "bytearray.__init__:exported"
 Builtin.Bytes.write (.ref a) fun _=>#[]
 k
theorem Og:Builtin.«bytearray.__init__» ⟨[.ref a],[]⟩=Ic a (ret .none):=by kernel_rfl
theorem OW:Builtin.«bytearray.__init__» ⟨[.ref a,.bytes d t],[]⟩=Ic a (do rule "bytearray.__init__.bytes-like";Builtin.Bytes.write (.ref a) fun _=>d;ret .none):=by kernel_rfl
theorem zh{k:Sem Fin}{Q:Fin->Shared->Prop}(ho:s.heap.get? a=some (bx b))(h:∀h',h'.get? a=some (bx #[])->Heap.SameBut a s.heap h'->wA (model prog w) A k Q {s with heap:=h'}):wA (model prog w) A (Ic a k) Q s:=by
 refine bw (HB ho ?_)
 rw[if_neg (by decide)]
 refine aj (jO ho ?_)
 rw[if_neg (by decide)]
 exact bw (my ho (Nat.zero_le _) h)
theorem FE{Q:Value->Shared->Prop}(ho:s.heap.get? a=some (bx b))(h:∀h',h'.get? a=some (bx #[])->Heap.SameBut a s.heap h'->Q .none {s with heap:=h'}):
  wA (model prog w) A (call (.builtin "bytearray.__init__") [.ref a]) Q s:=
 we oD.init ⟨_,ho,rfl⟩ (by kernel_rfl) CF (Hv _) (Og▸zh ho fun h' e' hs=>aH ⟨.none,rfl,h h' e' hs⟩)
theorem HA{Q:Value->Shared->Prop}(ho:s.heap.get? a=some (bx b))(hz:d.size<=sizeLine)(h:∀h',h'.get? a=some (bx d)->Heap.SameBut a s.heap h'->Q .none {s with heap:=h'}):
  wA (model prog w) A (call (.builtin "bytearray.__init__") [.ref a,.bytes d t]) Q s:=
 we oD.init ⟨_,ho,rfl⟩ (by kernel_rfl) CF (Fg _ _) (OW▸zh ho fun h' e' hs=>aj (qq (bw (my e' hz fun h2 e2 hs2=>aH ⟨.none,rfl,h h2 e2 (hs.trans hs2)⟩))))
theorem BS{args:List Value}{Q:Value->Shared->Prop}(h1:checkTypeCall "bytearray" ⟨args,[]⟩=pure ())(h2:checkBuiltinCall "bytearray.__new__" ⟨.type "bytearray"::args,[]⟩=pure ())(h3:j5 (.builtin "type.__call__" ⟨.type "bytearray"::args,[]⟩)=false)
  (hi:∀{A:Around} {s:Shared} {a:Addr} {Q:Value->Shared->Prop},s.heap.get? a=some (bx #[])->(∀h',h'.get? a=some (bx d)->Heap.SameBut a s.heap h'->Q .none {s with heap:=h'})->wA (model prog w) A (call (.builtin "bytearray.__init__") (.ref a::args)) Q s)
  (h:∀h',h'.get? s.heap.objs.size=some (bx d)->(∀b o,s.heap.get? b=some o->h'.get? b=some o)->Q (.ref s.heap.objs.size) {s with heap:=h'}):wA (model prog w) A (call (.type "bytearray") args) Q s:=by
 refine DW (Q₁:=fun obj s₁=>obj=.ref s.heap.objs.size/\s₁={s with heap:=s.heap.push (bx #[])}) oD h1 h3 (wpAny_call (xr h2 ⟨rfl,rfl⟩)) fun obj s₁ e=>?_
 obtain⟨rfl,rfl⟩:=e
 have e:(s.heap.push (bx #[])).get? s.heap.objs.size=some (bx #[]):=Heap.get?_push_size _ rfl
 exact⟨⟨_,e,rfl⟩,hi e fun h' e' hs=>⟨rfl,h h' e' fun b o q=>(hs.2 b (Nat.ne_of_lt (Heap.lt_size q))).trans (Heap.get?_push_of_some _ q)⟩⟩
theorem Ia{id:String}{full:Bool}{Q:Option (Array UInt8)->Shared->Prop}(ho:s.heap.get? a=some (bx b))(h:Q (some b) s):wpAny (model prog w) A (Builtin.Bytes.buffer? id (.ref a) full) Q E s:=by
 have hT:s.TypeIs (.ref a) "bytearray":=⟨_,ho,rfl⟩
 unfold Builtin.Bytes.buffer?
 refine wpAny_bind (wpAny_specialOf hT qY ?_)
 dsimp only
 refine wpAny_bind (yt ho qY (by decide+kernel) (by decide+kernel) ?_)
 rw[if_neg (by decide)]
 refine wpAny_bind (wpAny_specialOf hT qY ?_)
 show wpAny _ _ (Builtin.Bytes.ownRelease (.ref a)>>=_) _ _ _
 refine wpAny_bind (HB ho ?_)
 rw[if_neg (by decide)]
 refine wpAny_bind ?_
 unfold Builtin.Bytes.payload Builtin.Bytes.payload?
 exact wpAny_bind (wpAny_bind (wpAny_load ho (wpAny_pure (wpAny_pure (wpAny_pure h)))))
theorem tY{x:Value}{Q:Value->Shared->Prop}(h:wpAny (model prog w) A.in1.in1 (Builtin.«bytes.__new__» ⟨[.type "bytes",x],[]⟩) (fun fin s'=>∃v,fin=.done (.ret v)/\s'.TypeIs v "bytes"/\Q v s') E s):wpAny (model prog w) A (call (.type "bytes") [x]) Q E s:=by
 refine callType_codes (Q₁:=fun obj s₁=>s₁.TypeIs obj "bytes"/\Q obj s₁) F.bm_called (F.bm_typeCall _) F.entry_object_init (codeAny_of_tree ?_) fun obj s₁ h₁=>⟨h₁.1,F.args_object_init_2 obj _,object_init_meets F.bm_called.init.lookup F.bm_called.made (by decide) prog w A.in1 _ s₁ ⟨h₁.1,rfl,h₁.2⟩⟩
 show wpAny _ A.in1.in1 (do checkBuiltinCall "bytes.__new__" ⟨[.type "bytes",x],[]⟩;again (.builtin "bytes.__new__" ⟨[.type "bytes",x],[]⟩)) _ _ s
 refine wpAny_bind (wpAny_of_eq (F.bm_newCall _) (wpAny_pure ⟨plainId_quiet F.bm_plain _,codeAny_builtin F.bm_entry ?_⟩))
 rw[Around.under_plainId F.bm_plain _]
 refine wpAny_mono h (fun fin s' q=>?_) fun e s x=>x
 obtain⟨v,rfl,q⟩:=q
 exact q
theorem ox{Q:Value->Shared->Prop}(hQ:Q (.bytes b t) s):wpAny (model prog w) A (call (.type "bytes") [.bytes b t]) Q E s:=by
 refine tY ?_
 unfold Builtin.«bytes.__new__»
 refine wpAny_bind (wpAny_of_eq (a:=true) rfl (bm_if_false rfl (wpAny_bind (wpAny_of_eq F.bm_sub (bm_if_false rfl (wpAny_bind (wpAny_of_eq (F.bm_bind _) ?_)))))))
 refine wpAny_bind (wpAny_of_eq (a:=()) rfl (wpAny_bind (wpAny_of_eq (a:=()) rfl (bm_if_false rfl ?_))))
 refine wpAny_bind (wpAny_specialOf (name:=Str.ofString "__bytes__") (PySem.W.typeIs_bytes s b t) Ho (wpAny_bind (wpAny_rule ?_)))
 exact wpAny_bind (wpAny_of_eq (a:=Value.type "bytes") rfl (bm_if_true (by decide) (wpAny_pure ⟨_,rfl,PySem.W.typeIs_bytes _ _ _,hQ⟩)))
theorem pY{Q:Value->Shared->Prop}(ho:s.heap.get? a=some (bx b))(hz:b.size<=sizeLine)(hQ:∀t k,Q (.bytes b t) {s with toks:=k}):wpAny (model prog w) A (call (.type "bytes") [.ref a]) Q E s:=by
 have hT:s.TypeIs (.ref a) "bytearray":=⟨_,ho,rfl⟩
 refine tY ?_
 unfold Builtin.«bytes.__new__»
 refine wpAny_bind (wpAny_of_eq (a:=true) rfl (bm_if_false rfl (wpAny_bind (wpAny_of_eq F.bm_sub (bm_if_false rfl (wpAny_bind (wpAny_of_eq (F.bm_bind _) ?_)))))))
 refine wpAny_bind (wpAny_of_eq (a:=()) rfl (wpAny_bind (wpAny_of_eq (a:=()) rfl (bm_if_false rfl ?_))))
 refine wpAny_bind (wpAny_specialOf (name:=Str.ofString "__bytes__") hT Jo ?_)
 dsimp only
 refine wpAny_bind (wpAny_bind ?_)
 unfold asStr?
 refine wpAny_bind (wpAny_load ho (wpAny_pure (wpAny_pure (bm_if_false rfl ?_))))
 refine wpAny_bind (wpAny_specialOf (name:=Str.ofString "__index__") hT Jx (bm_if_true rfl (wpAny_bind (Ia ho ?_))))
 dsimp only
 exact wpAny_bind (wpAny_rule (wpAny_bind (wpAny_mkBytes (bm_if_true (by decide) (wpAny_pure ⟨_,rfl,PySem.W.typeIs_bytes _ _ _,hQ _ _⟩)) hz)))
end
section
variable{c:Cx}{A:Around}{w:Wd}{μ:Mu}{K:KV}{a:V}{u:Value}{us:List Value}{l:List V}{k:Nat}
theorem zo{d:List UInt8}{h':Heap}(S:Sat c w μ)(q:w9 (.eX d) μ K)(e:h'.get? w.h.objs.size=some (bx d.toArray))(hk:∀b o,w.h.get? b=some o->h'.get? b=some o):∃w',w'.s={w.s with heap:=h'}/\Step c [] w w'/\PK c K (.ref w.h.objs.size) w':=
 have S':=S.keep (s:={w.s with heap:=h'}) hk
 have S2:=q9 (w:=⟨w.F,w.a,{w.s with heap:=h'}⟩) (p:=w.h.objs.size) (m:=.eX d) S' (gu (s:={w.s with heap:=h'}) S hk (cg _) ⟨_,e⟩) ⟨_,e⟩ ⟨rfl,e⟩
 ⟨⟨w.F,w.a++[(w.h.objs.size,w.h.objs.size)],{w.s with heap:=h'}⟩,rfl,(Step.keeps (s:={w.s with heap:=h'}) rfl rfl hk).own (cg _),.of S2 S.loc (vw q)⟩
theorem Ka(S:Sat c w μ)(h:PA l μ K)(C:fC c w.F w.a l us):WP c [] A (call (.type "bytearray") us) w (PK c K):=by
 cases l with
 |nil=>cases C;exact BS (d:=#[]) (by kernel_rfl) (by kernel_rfl) (by kernel_rfl) FE fun h' e hk=>zo S h e hk
 |cons a l=>
  revert C
  refine rj (P:=fun l=>fC c w.F w.a (a::l) us->_) l (fun h C=>?_) h
  obtain⟨u,rfl,C1⟩:=Z.un C
  clear C
  revert C1
  refine aB a (fun d h=>km d (fun d q C=>?_) h) h
  obtain⟨t,rfl⟩:=C
  exact BS (d:=d.toArray) (by kernel_rfl) (by kernel_rfl) (by kernel_rfl) (fun ho h=>HA ho (by rw[List.size_toArray,a0];exact q.1) h) fun h' e hk=>zo S q.2 e hk
theorem HW(hh:A.handled=none)(S:Sat c w μ)(h:ta a (Lv μ K) fun k=>iy μ k (mY (Dt μ K))):CV c w.F w.a a u->WP c [] A (call (.type "bytes") [u]) w (PK c K):=
 qh a (fun d h=>cJ d TO (fun x=>TO) (fun x=>TO) (fun x=>TO) (fun d q C=>C.elim fun t e=>e▸.val S q.2 (ox ⟨rfl,rfl,rfl,t,rfl⟩)) (fun x=>TO)
   (fun l h C=>by obtain⟨r,e,q⟩:=iC h;cases K9 e;exact NJ hh S q C) (fun x=>TO) h)
  (fun k h C=>by obtain⟨d,t,e1,e2,rfl,ho,q⟩:=Of S h C;exact .val S q.2 (pY ho (by rw[List.size_toArray,a0];exact q.1) fun t k=>⟨rfl,rfl,rfl,_,rfl⟩)) h
theorem MM{b:B}(G:Good c)(hh:A.handled=none)(S:Sat c w μ)(h:Si b l μ K):fC c w.F w.a l us->WP c [] A (call (ER b) us) w (PK c K):=by
 cases b with
 |len=>exact call_one h fun v u=>MT S
 |ord=>exact call_one h fun v u h=>aB v (fun d h=>nk d (fun l h=>jh l (fun x q C=>C.elim fun t e=>e▸.val S q (P.ord_of_char ⟨rfl,rfl,rfl,_,rfl⟩)) h) h) h
 |chr=>exact call_one h fun v u h=>aB v (fun d h=>bC d (fun i=>NI S) h) h
 |abs=>exact call_one h fun v u h=>aB v (fun d h=>bC d (fun i=>NG S) h) h
 |min=>exact zC h fun v v' u u' h=>aB v (fun d h C=>bC d (fun i h C=>aB v' (fun d' h=>bC d' (fun j h=>NX hh S h C) h) h) h C) h
 |all=>exact call_one h fun v u h=>aB v (fun d h=>oP d (fun l h C=>by obtain⟨r,e,q⟩:=iC h;cases Ff e;exact NT hh S q.2 C) h) h
 |isinstance=>exact zC h fun v v' u u' h=>aB v (fun d h C=>Es G S h C) h
 |cV=>exact call_one h fun v u=>HW hh S
 |dg=>exact Ka S h
 |mS=>exact call_one h fun v u h=>aB v (fun d h=>bC d (fun i=>Me S) h) h
 |u9=>exact call_one h fun v u h=>aB v (fun d h=>bC d (fun i=>MA S) h) h
 |bF=>exact call_one h fun v u=>MI S
 |jV=>exact h.elim
end
end
section
theorem Ca:Slot "bytes" "join" "bytes.join":=
 .of (owner:="bytes") (n:="join") (by rw[typeLookup_type,builtinLookup_eq_fast];kernel_rfl) (by decide+kernel) (by decide+kernel) (by decide+kernel) (by first|exact .inl (by decide+kernel)|exact .inr (by decide+kernel)) (by rw[isSubtype_type];kernel_rfl)
theorem Cv:Slot "bytes" "replace" "bytes.replace":=
 .of (owner:="bytes") (n:="replace") (by rw[typeLookup_type,builtinLookup_eq_fast];kernel_rfl) (by decide+kernel) (by decide+kernel) (by decide+kernel) (by first|exact .inl (by decide+kernel)|exact .inr (by decide+kernel)) (by rw[isSubtype_type];kernel_rfl)
theorem Cz:Slot "bytes" "find" "bytes.find":=
 .of (owner:="bytes") (n:="find") (by rw[typeLookup_type,builtinLookup_eq_fast];kernel_rfl) (by decide+kernel) (by decide+kernel) (by decide+kernel) (by first|exact .inl (by decide+kernel)|exact .inr (by decide+kernel)) (by rw[isSubtype_type];kernel_rfl)
theorem C0:Slot "bytearray" "append" "bytearray.append":=
 .of (owner:="bytearray") (n:="append") (by rw[typeLookup_type,builtinLookup_eq_fast];kernel_rfl) (by decide+kernel) (by decide+kernel) (by decide+kernel) (by first|exact .inl (by decide+kernel)|exact .inr (by decide+kernel)) (by rw[isSubtype_type];kernel_rfl)
theorem F9:entryFor table "bytes.join"=some Builtin.«bytes.join» :=entryFor_of_tree (by kernel_rfl)
theorem Ha:entryFor table "bytes.replace"=some Builtin.«bytes.replace» :=entryFor_of_tree (by kernel_rfl)
theorem Ii:entryFor table "bytes.find"=some Builtin.«bytes.find» :=entryFor_of_tree (by kernel_rfl)
theorem ET:entryFor table "bytearray.append"=some Builtin.«bytearray.append» :=entryFor_of_tree (by kernel_rfl)
theorem IS(a b:Value):argsOk "bytes.join" ⟨[a,b],[]⟩:=by
 unfold argsOk;rw[signature?_of (id:="bytes.join") (n:=['n','i','o','j']) (o:=['s','e','t','y','b']) (by kernel_rfl) FB.owner_bytes];kernel_rfl
theorem J1(a b d:Value):argsOk "bytes.replace" ⟨[a,b,d],[]⟩:=by
 unfold argsOk;rw[signature?_of (id:="bytes.replace") (n:=['e','c','a','l','p','e','r']) (o:=['s','e','t','y','b']) (by kernel_rfl) FB.owner_bytes];kernel_rfl
theorem K_(a b d:Value):argsOk "bytes.find" ⟨[a,b,d],[]⟩:=by
 unfold argsOk;rw[signature?_of (id:="bytes.find") (n:=['d','n','i','f']) (o:=['s','e','t','y','b']) (by kernel_rfl) FB.owner_bytes];kernel_rfl
theorem J6(a b:Value):argsOk "bytearray.append" ⟨[a,b],[]⟩:=by
 unfold argsOk;rw[signature?_of (id:="bytearray.append") (n:=['d','n','e','p','p','a']) (o:=['y','a','r','r','a','e','t','y','b']) (by kernel_rfl) l5];kernel_rfl
theorem IT:typeOf (.builtin "bytes.join")=pure (.type "method_descriptor"):=by show builtinType _=_;rw[builtinType_eq_fast];kernel_rfl
theorem Kq:typeOf (.builtin "bytes.replace")=pure (.type "method_descriptor"):=by show builtinType _=_;rw[builtinType_eq_fast];kernel_rfl
theorem Ld:typeOf (.builtin "bytes.find")=pure (.type "method_descriptor"):=by show builtinType _=_;rw[builtinType_eq_fast];kernel_rfl
theorem Jp:typeOf (.builtin "bytearray.append")=pure (.type "method_descriptor"):=by show builtinType _=_;rw[builtinType_eq_fast];kernel_rfl
theorem Jm:typeOf (.builtin "list.append")=pure (.type "method_descriptor"):=by show builtinType _=_;rw[builtinType_eq_fast];kernel_rfl
theorem E9:PlainAttrs "bytearray":=
 ⟨⟨"bytearray.__getattribute__",by rw[typeLookup_type,builtinLookup_eq_fast];kernel_rfl,by decide+kernel⟩,by rw[typeLookup_type,builtinLookup_eq_fast];kernel_rfl⟩
theorem ED(b sub:Array UInt8)(t u v:Tok)(i:Int):Builtin.«bytes.find» ⟨[.bytes b t,.bytes sub u,.int i v],[]⟩=
  (match(if(Builtin.Bytes.window b.size (some i) none).2-(Builtin.Bytes.window b.size (some i) none).1<sub.size then none else some ((Builtin.Bytes.window b.size (some i) none).1.toNat,(Builtin.Bytes.window b.size (some i) none).2.toNat):Option (Nat×Nat)).bind fun p=>Builtin.Bytes.find? b sub p.1 p.2 with
  |some i=>retInt i
  |none=>(do rule "bytes.find.not-found";retInt (-1))):=by kernel_rfl
theorem Dy(b o n:Array UInt8)(t u v:Tok):Builtin.«bytes.replace» ⟨[.bytes b t,.bytes o u,.bytes n v],[]⟩=
  (let places:=if o.isEmpty then List.range (b.size+1)else Builtin.Bytes.occurrences b o 0 b.size
  if places.isEmpty||(o.isEmpty&&n.isEmpty)then(do rule "bytes.replace.nothing";ret (.bytes b t))
  else if Builtin.Bytes.tooLong (b.size+places.length*n.size)then(unsupported "bytes.replace:memory":Sem Fin)
  else(do ret (<-mkBytes (Builtin.Bytes.joined n (Builtin.Bytes.between b o.size places))))):=by kernel_rfl
theorem xp(k i:Nat):((List.range (k+1)).map (·+i))=i::((List.range k).map (·+(i+1))):=by
 rw[List.range_succ_eq_map,List.map_cons,List.map_map]
 exact congr (congrArg _ (Nat.zero_add i)) (List.map_congr_left fun x h=>Nat.succ_add_eq_add_succ x i)
theorem yq(a b:UInt8)(l r:List UInt8):∀i,l.drop i=r->bV a b r i=((List.range (r.length-1)).map (·+i)).find? fun p=>decide ((l.drop p).take 2=[a,b]):=by
 induction r with
 |nil=>exact fun i e=>rfl
 |cons x r ih=>cases r with
  |nil=>exact fun i e=>rfl
  |cons y r=>
   refine fun i e=>?_
   have h:=ih (i+1) (by rw[<-List.tail_drop,e];rfl)
   rw[show(x::y::r).length-1=((y::r).length-1)+1 from rfl,xp,List.find?_cons,e]
   show(if x=a/\y=b then some i else bV a b (y::r) (i+1))=_
   by_cases hc:x=a/\y=b
   ·rw[if_pos hc,hc.1,hc.2,decide_eq_true (show List.take 2 (a::b::r)=[a,b]from rfl)]
   ·rw[if_neg hc,h,decide_eq_false (show¬List.take 2 (x::y::r)=[a,b]from fun q=>hc ⟨(List.cons.inj q).1,(List.cons.inj (List.cons.inj q).2).1⟩)]
theorem Bn(l:List UInt8)(i:Nat)(a b:UInt8)(h:i<=l.length):
  ((if(Builtin.Bytes.window l.toArray.size (some (i:Int)) none).2-(Builtin.Bytes.window l.toArray.size (some (i:Int)) none).1<(#[a,b]:Array UInt8).size then none else some ((Builtin.Bytes.window l.toArray.size (some (i:Int)) none).1.toNat,(Builtin.Bytes.window l.toArray.size (some (i:Int)) none).2.toNat):Option (Nat×Nat)).bind fun p=>Builtin.Bytes.find? l.toArray #[a,b] p.1 p.2)=bV a b (l.drop i) i:=by
 have w1:(Builtin.Bytes.window l.toArray.size (some (i:Int)) none)=((i:Int),(l.length:Int)):=by
  unfold Builtin.Bytes.window
  simp only[List.size_toArray,Option.getD_some,Option.getD_none]
  rw[if_neg (Int.not_lt.mpr (Int.natCast_nonneg _)),if_neg (Int.not_lt.mpr (Int.natCast_nonneg _)),Int.min_eq_left (Int.le_refl _)]
 have e2:l.length+1-(i+2)=(l.drop i).length-1:=by rw[List.length_drop];omega
 rw[w1,show(#[a,b]:Array UInt8).size=2 from rfl,yq a b l _ i rfl,<-e2]
 dsimp only
 by_cases hc:(l.length:Int)-(i:Int)<2
 ·rw[if_pos (by exact hc),show l.length+1-(i+2)=0 by omega]
  rfl
 ·rw[if_neg (by exact hc),Option.bind_some]
  refine congrArg (fun f=>List.find? f _) (funext fun p=>?_)
  rw[Bool.eq_iff_iff,beq_iff_eq,decide_eq_true_eq,<-Array.toList_inj]
  simp[List.take_drop]
theorem sM(x:UInt8)(t:Tok):Builtin.Bytes.byteValue (.int (x.toNat:Int) t)=pure x:=by
 unfold Builtin.Bytes.byteValue
 show(do let i<-asIndex (.int (x.toNat:Int) t);_)=_
 have:asIndex (.int (x.toNat:Int) t)=pure (x.toNat:Int):=by kernel_rfl
 rw[this]
 have h:=UInt8.toNat_lt x
 have h1:((x.toNat:Int)<0)=False:=by simp
 have h2:((x.toNat:Int)>=256)=False:=by simp;omega
 show(if(decide ((x.toNat:Int)<0)||decide ((x.toNat:Int)>=256))=true then _ else _)=_
 simp[h1,h2]
theorem zw(id:String)(b:Array UInt8)(t:Tok):(Builtin.Bytes.takeBufferQuiet? id (.bytes b t) 0)=pure (some (b,none)):=by kernel_rfl
abbrev JS:=Array (Array UInt8)×List (Value×Option Value)
def Gg(vs:List Value)(l:List (List UInt8))(k:Nat):JS:=(((l.take k).map (·.toArray)).toArray,(vs.take k).map (·,none))
theorem GD{vs:List Value}{l:List (List UInt8)}{k:Nat}{b:List UInt8}{v:Value}(h1:l[k]? =some b)(h2:vs[k]? =some v):((Gg vs l k).1.push b.toArray,(Gg vs l k).2++[(v,none)])=Gg vs l (k+1):=by
 obtain⟨hk,rfl⟩:=List.getElem?_eq_some_iff.mp h1
 obtain⟨hk',rfl⟩:=List.getElem?_eq_some_iff.mp h2
 unfold Gg
 rw[List.take_succ_eq_append_getElem hk,List.take_succ_eq_append_getElem hk',List.map_append,List.map_append]
 simp only[List.push_toArray,List.map_cons,List.map_nil]
theorem EU{c:Cx}{F:Heap}{vs:List Value}{l:List (List UInt8)}(h:jm c F (l.map .bytes) vs){i:Nat}{b:List UInt8}(e:l[i]? =some b):∃t,vs[i]? =some (.bytes b.toArray t):=
 ((Z.map.mp h).get e).elim fun v q=>q.2.elim fun t q'=>⟨t,q'.symm▸q.1⟩
theorem JM{c:Cx}{F:Heap}{vs:List Value}{l:List (List UInt8)}(h:jm c F (l.map .bytes) vs)(k:Nat):((Gg vs l k).2.any fun x=>x.1.onHeap)=false:=by
 unfold Gg
 rw[List.any_map,List.any_eq_false]
 refine fun v hv=>?_
 obtain⟨i,hi,rfl⟩:=List.getElem_of_mem (List.mem_of_mem_take hv)
 obtain⟨t,e⟩:=EU h (List.getElem?_eq_getElem (i:=i) ((show l.length=vs.length from(TN ..).symm.trans h.len)▸hi))
 rw[List.getElem?_eq_getElem hi] at e
 rw[Option.some.inj e]
 exact Bool.false_ne_true
section
variable{prog:Program}{w:World}{A:Around}{E:Value->Shared->Prop}{s:Shared}
theorem yR{β:Type}{M:Model}{f:Nat->β->Sem (ForInStep β)}{St:Nat->β}{Q:β->Shared->Prop}{n:Nat}(hf:∀i,i<n->wpAny M A (f i (St i)) (fun r s'=>r=.yield (St (i+1))/\s'=s) E s)(hq:Q (St n) s):
  ∀(m k:Nat),k+m=n->wpAny M A (forIn (List.range' k m) (St k) f) Q E s
 |0,k,h=>by
  have:k=n:=by omega
  subst this
  exact wpAny_pure hq
 |m+1,k,h=>by
  rw[List.range'_succ,List.forIn_cons]
  refine wpAny_bind (wpAny_mono (hf k (by omega)) ?_ fun _ _ x=>x)
  rintro _ s' ⟨rfl,e⟩
  rw[e]
  exact yR hf hq m (k+1) (by omega)
theorem D9{β:Type}{M:Model}{f:Nat->β->Sem (ForInStep β)}{St:Nat->β}{Q:β->Shared->Prop}{n:Nat}{b0:β}(h0:b0=St 0)(hf:∀i,i<n->wpAny M A (f i (St i)) (fun r s'=>r=.yield (St (i+1))/\s'=s) E s)(hq:Q (St n) s):
  wpAny M A (forIn [:n] b0 f) Q E s:=by
 subst h0
 rw[Std.Legacy.Range.forIn_eq_forIn_range']
 have:[:n].size=n:=by simp[Std.Legacy.Range.size]
 rw[this]
 exact yR hf hq n 0 (by omega)
theorem uG{M:Model}{Q:Unit->Shared->Prop}{keep:List Value}(hq:Q () s):∀(vs:List Value),wpAny M A (Builtin.Bytes.joinLetGo (vs.map (·,none)) keep) Q E s
 |[]=>wpAny_pure hq
 |v::vs=>by
  unfold Builtin.Bytes.joinLetGo
  dsimp only[List.map_cons]
  exact wpAny_bind (wpAny_letGo (uG hq vs))
theorem EB(sep:List UInt8)(l:List (List UInt8)):Builtin.Bytes.joined sep.toArray (l.map (·.toArray))=(aq sep l).toArray:=by
 unfold Builtin.Bytes.joined
 have gen:∀(l:List (List UInt8)) (acc:Array UInt8) (k:Nat),0<k->(((l.map (·.toArray)).zipIdx k).foldl (fun out (p:Array UInt8×Nat)=>(if p.2>0 then out++sep.toArray else out)++p.1) acc)=acc++(l.flatMap fun x=>sep++x).toArray:=by
  intro l
  induction l with
  |nil=>intro acc k _;simp
  |cons x l ih=>
   intro acc k hk
   rw[List.map_cons,List.zipIdx_cons,List.foldl_cons,ih _ _ (by omega)]
   simp[hk]
 have jl:∀(x:List UInt8) (l:List (List UInt8)),aq sep (x::l)=x++l.flatMap fun y=>sep++y:=by
  intro x l
  induction l generalizing x with
  |nil=>simp[aq]
  |cons y l ih=>show x++sep++aq sep (y::l)=_;rw[ih];simp
 cases l with
 |nil=>rfl
 |cons x l=>
  rw[List.map_cons,List.zipIdx_cons,List.foldl_cons,jl]
  have:=gen l ((if(0:Nat)>0 then#[]++sep.toArray else#[])++x.toArray) 1 (by omega)
  dsimp only at this⊢
  rw[this]
  simp
theorem Ee(sep:List UInt8)(l:List (List UInt8)):((l.map (·.toArray)).toArray.foldl (·+·.size) (sep.toArray.size*((l.map (·.toArray)).toArray.size-1)))=(aq sep l).length:=by
 rw[<-Array.foldl_toList]
 have gen:∀(l:List (List UInt8)) (k:Nat),((l.map (·.toArray)).foldl (fun a (b:Array UInt8)=>a+b.size) k)=k+(l.map (·.length)).sum:=by
  intro l
  induction l with
  |nil=>intro k;simp
  |cons x l ih=>intro k;rw[List.map_cons,List.foldl_cons,ih];simp;omega
 have jl:∀(l:List (List UInt8)),(aq sep l).length=sep.length*(l.length-1)+(l.map (·.length)).sum:=by
  intro l
  induction l with
  |nil=>simp[aq]
  |cons x l ih=>
   cases l with
   |nil=>simp[aq]
   |cons y l=>
    show(x++sep++aq sep (y::l)).length=_
    rw[TM,TM,ih]
    simp only[List.length_cons,List.map_cons,List.sum_cons,Nat.add_sub_cancel]
    rw[Nat.mul_succ];omega
 rw[gen,jl]
 simp
noncomputable def Ro(i:Nat)(x:Value)(h:List Value)(st:JS):Sem (ForInStep JS):=do
 rule "bytes.join.item-not-bytes-like"
 holding (x::h.drop 1) point
 Builtin.Bytes.joinLetGo st.2 [x]
 let r<-typeNameOf x
 raiseErrorMade "TypeError" (toString "sequence item "++toString i++toString ": expected a bytes-like object, "++toString r++toString " found") (α:=Unit)
 pure (.yield st)
noncomputable def Ov(q:Value)(n:Nat)(st:JS):Sem (ForInStep JS):=do
 match<-seqItems? q with
 |some after=>
  if(after.size != n)=true then
   rule "bytes.join.changed-size"
   Builtin.Bytes.joinLetGo st.2 []
   raiseErrorWords "RuntimeError" "sequence changed size during iteration" (α:=Unit)
   pure (.yield st)
  else pure (.yield st)
 |x=>do
  unsupported "internal:bytes.join" (α:=Unit)
  pure (.yield st)
noncomputable def zf(q:Value)(n i:Nat)(st:JS)(x:Value):Sem (ForInStep JS):=do
 match<-holding (x::q::st.2.flatMap fun x=>match x with|(y,u)=>y::u.toList) (Builtin.Bytes.takeBufferQuiet? "bytes.join" x 0)with
 |some (b,w)=>Ov q n (st.1.push b,st.2++[(x,w)])
 |y=>Ro i x (q::st.2.flatMap fun x=>match x with|(y,u)=>y::u.toList) st
noncomputable def Hf(q:Value)(n i:Nat)(st:JS):Sem (ForInStep JS):=do
 match<-seqItems? q with
 |some now=>
  if(st.2.any fun x=>x.1.onHeap)=true then
   match<-specialOf (now.getD i .none) (Str.ofString "__buffer__")with
   |none=>zf q n i st (now.getD i .none)
   |some (.builtin id)=>zf q n i st (now.getD i .none)
   |some v=>do
    let r<-unsupported "bytes.join:buffer" (α:=Unit)
    zf q n i st (now.getD i .none)
  else zf q n i st (now.getD i .none)
 |x=>do
  unsupported "internal:bytes.join" (α:=Unit)
  pure (.yield st)
noncomputable def Mi(sep:Array UInt8)(st:JS):Sem Fin:=do
 if Builtin.Bytes.tooLong (st.1.foldl (·+·.size) (sep.size*(st.1.size-1)))then unsupported "bytes.join:memory"
 let result<-mkBytes (Builtin.Bytes.joined sep st.1.toList)
 holding (result::st.2.flatMap fun x=>match x with|(y,u)=>y::u.toList) point
 Builtin.Bytes.joinLetGo st.2 [result]
 ret result
noncomputable def Cr(sep:Array UInt8)(q:Value)(n:Nat):Sem Fin:=do
 let st<-forIn [:n] ((#[],[]):JS) (Hf q n)
 Mi sep st
noncomputable def QX(sep:Array UInt8)(q x:Value)(n:Nat):Sem Fin:=do
 if((<-typeOf x)==.type "bytes")=true then
  rule "bytes.join.one-item"
  ret x
 else Cr sep q n
noncomputable def RL(sep:Array UInt8)(q:Value)(items:Array Value):Sem Fin:=match items with
 |#[x]=>QX sep q x items.size
 |x=>Cr sep q items.size
theorem join_tree(sep:Array UInt8)(t:Tok)(a:Value):Builtin.«bytes.join» ⟨[.bytes sep t,a],[]⟩=(do
 let q<-Builtin.Bytes.joinItems a
 match<-seqItems? q with
 |some items=>RL sep q items
 |x=>unsupported "internal:bytes.join"):=by kernel_rfl
theorem GW{c:Cx}{F:Heap}{a:Addr}{vs:List Value}{l:List (List UInt8)}{o:Obj}{n i:Nat}(ho:s.heap.get? a=some o)(hd:o.data=.seq vs.toArray n)(hy:jm c F (l.map .bytes) vs)(hi:i<vs.length):
  wpAny (model prog w) A (Hf (.ref a) vs.toArray.size i (Gg vs l i)) (fun r s'=>r=.yield (Gg vs l (i+1))/\s'=s) E s:=by
 have hl:i<l.length:=(show l.length=vs.length from(TN ..).symm.trans hy.len)▸hi
 have h1:=List.getElem?_eq_getElem hl
 obtain⟨t',h2⟩:=EU hy h1
 unfold Hf
 refine wpAny_bind (wpAny_seqItems ho hd ?_)
 dsimp only
 rw[if_neg (by rw[JM hy];decide),show vs.toArray.getD i Value.none=.bytes l[i].toArray t' by rw[Array.getD_eq_getD_getElem?,List.getElem?_toArray,h2];rfl]
 unfold zf
 refine wpAny_bind (wpAny_holding (wpAny_of_eq (zw _ _ _) ?_))
 unfold Ov
 refine wpAny_bind (wpAny_seqItems ho hd ?_)
 dsimp only
 rw[if_neg (by rw[bne_self_eq_false];decide),GD h1 h2]
 exact wpAny_pure ⟨rfl,rfl⟩
theorem Kc{vs:List Value}{sep:List UInt8}{l:List (List UInt8)}{Q:Value->Shared->Prop}(hz:(aq sep l).length<=sizeLine)(hQ:∀t' k,Q (.bytes (aq sep l).toArray t') {s with toks:=k}):
  wpAny (model prog w) A (Mi sep.toArray ((l.map (·.toArray)).toArray,vs.map (·,none))) (fun fin s'=>∃v,fin=.done (.ret v)/\Q v s') E s:=by
 unfold Mi
 dsimp only
 rw[Ee,if_neg (show¬Builtin.Bytes.tooLong _=true from fun e=>Nat.not_lt.mpr hz (of_decide_eq_true e)),EB]
 exact wpAny_bind (wpAny_mkBytes (wpAny_bind (wpAny_holding (wpAny_point (wpAny_bind (uG (wpAny_pure ⟨_,rfl,hQ _ _⟩) vs))))) (by rw[List.size_toArray];exact hz))
theorem EX{c:Cx}{F:Heap}{a:Addr}{vs:List Value}{sep:List UInt8}{l:List (List UInt8)}{o:Obj}{n:Nat}{Q:Value->Shared->Prop}(ho:s.heap.get? a=some o)(hd:o.data=.seq vs.toArray n)(hy:jm c F (l.map .bytes) vs)(hz:(aq sep l).length<=sizeLine)(hQ:∀t' k,Q (.bytes (aq sep l).toArray t') {s with toks:=k}):
  wpAny (model prog w) A (Cr sep.toArray (.ref a) vs.toArray.size) (fun fin s'=>∃v,fin=.done (.ret v)/\Q v s') E s:=by
 unfold Cr
 refine wpAny_bind (D9 (n:=vs.toArray.size) (St:=Gg vs l) rfl (fun i hi=>GW ho hd hy ((List.size_toArray ..).symm▸hi)) ?_)
 rw[List.size_toArray,show Gg vs l vs.length=((l.map (·.toArray)).toArray,vs.map (·,none)) by unfold Gg;rw[List.take_of_length_le (Nat.le_of_eq ((TN ..).symm.trans hy.len)),List.take_of_length_le (TG _)]]
 exact Kc hz hQ
theorem Eo{c:Cx}{F:Heap}{a:Addr}{vs:List Value}{sep:List UInt8}{t:Tok}{l:List (List UInt8)}{Q:Value->Shared->Prop}(hl:s.heap.IsList a vs.toArray)(hy:jm c F (l.map .bytes) vs)(hz:(aq sep l).length<=sizeLine)
  (hQ:∀t' k,Q (.bytes (aq sep l).toArray t') {s with toks:=k}):wpAny (model prog w) A (Builtin.«bytes.join» ⟨[.bytes sep.toArray t,.ref a],[]⟩) (fun fin s'=>∃v,fin=.done (.ret v)/\Q v s') E s:=by
 obtain⟨o,ho,hc,n,hd⟩:=id hl
 rw[join_tree]
 unfold Builtin.Bytes.joinItems
 refine wpAny_bind (wpAny_bind (wpAny_typeOf hl.typeIs (wpAny_pure (a:=Value.ref a) (wpAny_bind (wpAny_seqItems ho hd ?_)))))
 have lp:=EX (A:=A) (prog:=prog) (w:=w) (E:=E) ho hd hy hz hQ
 match vs,lp,hy with
 |[],lp,hy=>exact lp
 |[v],lp,hy=>
  show wpAny _ _ (typeOf v>>=_) _ _ _
  cases l with
  |nil=>cases hy
  |cons b l=>
   obtain⟨u,us,e,⟨t',rfl⟩,h⟩:=hy
   cases e
   cases l with
   |cons b' l=>obtain⟨u,us,e,h⟩:=h;cases e
   |nil=>exact wpAny_bind (wpAny_of_eq (a:=Value.type "bytes") rfl (wpAny_bind (wpAny_rule (wpAny_pure ⟨_,rfl,hQ t' s.toks⟩))))
 |v::v2::r,lp,hy=>exact lp
end
theorem rn{α:Type}(sep x:List α)(l:List (List α)):aq sep (x::l)=x++l.flatMap fun y=>sep++y:=by
 induction l generalizing x with
 |nil=>simp[aq]
 |cons y l ih=>show x++sep++aq sep (y::l)=_;rw[ih];simp
theorem GN(sep:List Nat)(l:List (List Nat)):Builtin.Str.glued ⟨sep.toArray⟩ (l.map fun x=>⟨x.toArray⟩)=⟨(aq sep l).toArray⟩:=by
 unfold Builtin.Str.glued
 have gen:∀(l:List (List Nat)) (acc:Array Nat),((l.map fun x=>(⟨x.toArray⟩:Str)).foldl (fun acc p=>acc++(⟨sep.toArray⟩:Str).cps++p.cps) acc)=acc++(l.flatMap fun x=>sep++x).toArray:=by
  intro l
  induction l with
  |nil=>intro acc;simp
  |cons x l ih=>
   intro acc
   rw[List.map_cons,List.foldl_cons,ih]
   simp
 cases l with
 |nil=>rfl
 |cons x l=>
  congr 1
  rw[List.map_cons,rn]
  show((l.map fun x=>(⟨x.toArray⟩:Str)).foldl _ x.toArray)=_
  rw[gen]
  simp
theorem D5(sep:List Nat)(l:List (List Nat)):(((l.map fun x=>(⟨x.toArray⟩:Str))).toArray.foldl (fun a x=>a+x.length+(⟨sep.toArray⟩:Str).length) 0)<=(aq sep l).length+sep.length:=by
 rw[<-Array.foldl_toList]
 have gen:∀(l:List (List Nat)) (k:Nat),((l.map fun x=>(⟨x.toArray⟩:Str)).foldl (fun a x=>a+x.length+(⟨sep.toArray⟩:Str).length) k)=k+(l.flatMap fun x=>sep++x).length:=by
  intro l
  induction l with
  |nil=>intro k;simp
  |cons x l ih=>
   intro k
   rw[List.map_cons,List.foldl_cons,ih,List.flatMap_cons,TM,TM]
   show k+x.toArray.size+sep.toArray.size+_=_
   rw[List.size_toArray,List.size_toArray];omega
 rw[gen]
 cases l with
 |nil=>simp
 |cons x l=>rw[rn,List.flatMap_cons];simp;omega
noncomputable abbrev blank:Str:=⟨#[32]⟩
noncomputable def xV(s:List Nat):Bool:=
 let x:Str:=⟨s.toArray⟩
 if(decide (x.length<blank.length)||decide (Builtin.Str.strKind x<Builtin.Str.strKind blank))=true then decide (splitOn 32 s=[s])
 else if(Builtin.Str.occurrences x blank 0 x.length (x.length+1)).isEmpty then decide (splitOn 32 s=[s])
 else decide ((Builtin.Str.partsBetween x (Builtin.Str.occurrences x blank 0 x.length (x.length+1)) blank.length).map (·.cps.toList)=splitOn 32 s)&&decide (s.length<1000)&&decide ((splitOn 32 s).length<1000)
theorem wK:∀s∈mi,xV s=true:=by decide+kernel
noncomputable def B7(p:List UInt8×UInt8×List UInt8):Bool:=
 let b:=p.1.toArray
 let places:=Builtin.Bytes.occurrences b #[p.2.1] 0 b.size
 if places.isEmpty then decide (cW p.2.1 p.2.2 p.1=p.1)
 else decide ((Builtin.Bytes.joined p.2.2.toArray (Builtin.Bytes.between b 1 places)).toList=cW p.2.1 p.2.2 p.1)&&decide (b.size+places.length*p.2.2.toArray.size<10000)&&decide ((cW p.2.1 p.2.2 p.1).length<10000)
theorem yE:∀p∈lA,B7 p=true:=by decide+kernel
end
section
variable{c:Cx}{A:Around}{w w2:Wd}{μ:Mu}{K:KV}{Q:KL}{u v:Value}{us:List Value}{l:List V}{k n:Nat}{x:Str}
def Sd(c:Cx)(A:Around)(w:Wd)(x:Str)(u:Value)(Q:KL)(K:KV):Prop:=∀pl,∃f first,(∀P:Value×List Value->Wd->Prop,P (f,first) w->WP c [] A (getMethod u x pl) w P)/\
 ∀us w2 l μ,Step c [] w w2->Sat c w2 μ->fC c w2.F w2.a l us->Q l μ->rO c f w2.h/\WP c [] A (call f (first++us)) w2 (PK c K)
theorem BH(id:String)(h:Heap):rO c (.builtin id) h:=⟨.machine,.inr (.inl rfl),Looks.of_pure rfl⟩
theorem gR(id:String)(h:Heap):rO c (.type id) h:=⟨.machine,.inr (.inl rfl),Looks.of_pure rfl⟩
theorem oH{T id:String}(hT:w.s.TypeIs u T)(pa:PlainAttrs T)(sl:Slot T x id)(ty:typeOf (.builtin id)=pure (.type "method_descriptor"))(hd:∀a,u=.ref a->∃o,w.s.heap.get? a=some o/\o.dict=none)
  (hc:∀us w2 l μ,Step c [] w w2->Sat c w2 μ->fC c w2.F w2.a l us->Q l μ->WP c [] A (call (.builtin id) (u::us)) w2 (PK c K)):Sd c A w x u Q K:=
 fun pl=>⟨.builtin id,[u],fun P p=>.same (getMethod_builtin hT pa sl ty hd ⟨rfl,rfl,rfl,p⟩),fun us w2 l μ st S C q=>⟨BH _ _,hc us w2 l μ st S C q⟩⟩
theorem r6{f w':Value}{P:V->Prop}{R:Value->Wd->Prop}(h:one l P)(k:∀v u,P v->CV c w.F w.a v u->WP c [] A (call f [w',u]) w R):fC c w.F w.a l us->WP c [] A (call f (w'::us)) w R:=
 jh l (fun v h C=>(Z.un C).elim fun u e=>e.1▸k v u h e.2) h
theorem H7{f w':Value}{P:V->V->Prop}{R:Value->Wd->Prop}(h:two l P)(k:∀v v' u u',P v v'->CV c w.F w.a v u->CV c w.F w.a v' u'->WP c [] A (call f [w',u,u']) w R):fC c w.F w.a l us->WP c [] A (call f (w'::us)) w R:=
 vo l (fun v v' h C=>Exists.elim C fun u e=>e.elim fun us e=>(Z.un e.2.2).elim fun u' e'=>e.1▸e'.1▸k v v' u u' h e.2.1 e'.2) h
theorem QO{t:Addr}(S:Sat c w μ)(h:MV k K l μ)(C:CV c w.F w.a (.loc k) (.ref t)):fC c w.F w.a l us->WP c [] A (call (.builtin "list.append") (.ref t::us)) w (PK c K):=
 r6 h fun v u h=>aB v (fun x h C1=>by
  obtain⟨l,a,vs,e1,e2,e3,hl,d,hz,q⟩:=KY S h C
  cases e3
  refine ij (wpAny_list_append_plain hl (fun h' hl' hs=>?_) (by rw[List.size_toArray,<-d.len,a0];exact Nat.le_of_lt hz))
  rw[List.push_toArray] at hl'
  obtain⟨st,S'⟩:=set_own (s:={w.s with heap:=h'}) (m:=.list (l++[x])) S e2 hs (hl'.elim fun n e=>⟨_,e⟩) ⟨rfl,vs++[u],hl',d.append (.one C1)⟩ rfl rfl
  exact⟨_,rfl,st,.of (v:=.none) S' rfl (qO q)⟩) h
theorem Dv{a:Addr}{b:List UInt8}{i:Int}{t:Tok}{R:Value->Shared->Prop}{s:Shared}(ho:s.heap.get? a=some (bx b.toArray))(h0:0<=i)(h1:i<256)(hz:b.length<lim)
  (h:∀h',h'.get? a=some (bx (b++[UInt8.ofNat i.toNat]).toArray)->Heap.SameBut a s.heap h'->R .none {s with heap:=h'}):wA c.M A (call (.builtin "bytearray.append") [.ref a,.int i t]) R s:=by
 rw[<-GO h0 h1]
 refine we C0 ⟨_,ho,rfl⟩ (by kernel_rfl) ET (J6 _ _) ?_
 refine aj (aH (a:=(Value.ref a,Value.int ((UInt8.ofNat i.toNat).toNat:Int) t)) ?_)
 dsimp only
 refine aj (uh (sM _ t) ?_)
 unfold Builtin.Bytes.checkResize
 refine aj (aj (jO ho (aH ?_)))
 refine bw (my ho (by rw[List.push_toArray,List.size_toArray,TM,a0];exact hz) fun h' e' hs=>aH ⟨.none,rfl,h h' ?_ hs⟩)
 rw[List.push_toArray] at e'
 exact e'
theorem RM{t:Addr}(S:Sat c w μ)(h:Jk k K l μ)(C:CV c w.F w.a (.loc k) (.ref t)):fC c w.F w.a l us->WP c [] A (call (.builtin "bytearray.append") (.ref t::us)) w (PK c K):=
 r6 h fun v u h=>aB v (fun x h=>bC x (fun i h C1=>by
  obtain⟨l,a,e1,e2,e3,ho,h0,h1,hz,q⟩:=Of S h C
  obtain⟨t',rfl⟩:=C1
  cases e3
  refine Dv ho h0 h1 hz fun h' e hs=>?_
  obtain⟨st,S'⟩:=set_own (s:={w.s with heap:=h'}) (m:=.eX (l++[UInt8.ofNat i.toNat])) S e2 hs ⟨_,e⟩ ⟨rfl,e⟩ rfl rfl
  exact⟨_,rfl,st,.of (v:=.none) S' rfl (qO q)⟩) h) h
theorem Js{F:Heap}(l:List (List Nat)):∀vs,jm c F (l.map .str) vs->∃ps:List (Str×Tok),vs=strValues ps/\ps.map (·.1)=l.map fun x=>⟨x.toArray⟩:=by
 induction l with
 |nil=>exact fun vs e=>⟨[],e,rfl⟩
 |cons x l ih=>exact fun vs e=>Exists.elim e fun u e=>e.elim fun us e=>e.2.1.elim fun t h=>(ih us e.2.2).elim fun ps q=>⟨(⟨x.toArray⟩,t)::ps,by rw[e.1,h,q.1];rfl,congrArg (_::·) q.2⟩
theorem EA{s:List Nat}{t:Tok}{a:Addr}{vs:List Value}{l:List D}(S:Sat c w μ)(hl:w.h.IsList a vs.toArray)(hd:jm c w.F l vs)(h:P9 s μ K l):WP c [] A (call (.builtin "str.join") [.str ⟨s.toArray⟩ t,.ref a]) w (PK c K):=by
 obtain⟨l,e,hz,q⟩:=iC h
 cases qd e
 obtain⟨ps,rfl,e⟩:=Js l vs hd
 have g:Builtin.Str.glued ⟨s.toArray⟩ (ps.map (·.1))=⟨(aq s l).toArray⟩:=e▸GN s l
 refine .val S q (call_meets PySem.F.slot_str_join (typeIs_str _ _ _) PySem.F.entry_str_join (PySem.F.args_str_join_2 _ _) (meets_str_join_list ⟨s.toArray⟩ t a ps ?_) ⟨hl,?_⟩)
 ·rw[e]
  exact decide_eq_false (Nat.not_lt.mpr (Ta (D5 s l) (a0▸hz)))
 ·have post:∀t' k,(fun(u:Value) (s':Shared)=>s'.heap=w.h/\s'.gens=w.s.gens/\s'.os=w.s.os/\CV c w.F w.a (.str (aq s l)) u) (.str (Builtin.Str.glued ⟨s.toArray⟩ (ps.map (·.1))) t') {w.s with toks:=k}:=fun t' k=>⟨rfl,rfl,rfl,t',by rw[g]⟩
  unfold joinMade
  split
  ·rename_i p
   exact post p.2 w.s.toks
  ·refine⟨?_,post _ _⟩
   rw[g]
   exact show(aq s l).toArray.size<=sizeLine from a0▸Ta (Nat.le_add_right _ _) hz
theorem Fq{s:List Nat}{t:Tok}(S:Sat c w μ)(h:PJ s K l μ):fC c w.F w.a l us->WP c [] A (call (.builtin "str.lower") (.str ⟨s.toArray⟩ t::us)) w (PK c K):=by
 refine rj l (fun h C=>?_) h
 cases C
 have e:Txt.lower ⟨s.toArray⟩=⟨(s.map lowerCode).toArray⟩:=by
  rw[lower_ascii (fun y hy=>h.1 y hy)]
  exact congrArg Str.mk List.map_toArray
 refine .val S h.2.2 (SC.lower (PyProof.Rows.fit_lower (by rw[show Str.length ⟨s.toArray⟩=s.length from List.size_toArray ..];exact Ta h.2.1 (by decide))) ?_)
 rw[e]
 exact⟨rfl,rfl,rfl,_,rfl⟩
theorem Kh{F:Heap}(ps:List Str):∀k,jm c F (ps.map fun x=>.str x.cps.toList) (strsFrom k ps):=by
 induction ps with
 |nil=>exact fun k=>rfl
 |cons x r ih=>exact fun k=>⟨_,_,rfl,⟨k,rfl⟩,ih (k+1)⟩
theorem yG{ps:List Str}{l:List (List Nat)}{vs:List Value}(k:Tok)(S:Sat c w μ)(q:K (.d (.list (l.map .str))) μ)(e:ps.map (·.cps.toList)=l)(d:jm c w.F (ps.map fun x=>.str x.cps.toList) vs):
  ∃w':Wd,w'.s={w.s with heap:=w.h.push {cls:=.type "list",data:=.seq vs.toArray},toks:=k}/\Step c [] w w'/\PK c K (.ref w.h.objs.size) w':=
 (iF (w:=⟨w.F,w.a,{w.s with toks:=k}⟩) (S.keep Le.rfl) d (by rw[<-e,List.map_map] at q;exact q)).imp fun w' z=>⟨z.1,(Step.keeps (s:={w.s with toks:=k}) rfl rfl Le.rfl).trans z.2.1,z.2.2⟩
theorem GS{s:List Nat}{t:Tok}(S:Sat c w μ)(h:O' s K l μ):fC c w.F w.a l us->WP c [] A (call (.builtin "str.split") (.str ⟨s.toArray⟩ t::us)) w (PK c K):=
 r6 h fun v u h=>aB v (fun x h=>nk x (fun i h C=>by
  obtain⟨rfl,hs,q⟩:=h
  obtain⟨t1,rfl⟩:=C
  have hc:=wK s hs
  unfold xV at hc
  dsimp only at hc
  have self:splitOn 32 s=[s]->∃w':Wd,w'.s={w.s with heap:=w.h.push {cls:=.type "list",data:=.seq [Value.str ⟨s.toArray⟩ t].toArray}}/\Step c [] w w'/\PK c K (.ref w.h.objs.size) w':=fun e=>yG (ps:=[⟨s.toArray⟩]) w.s.toks S q e.symm ⟨_,_,rfl,⟨t,rfl⟩,rfl⟩
  cases h1:(decide ((⟨s.toArray⟩:Str).length<blank.length)||decide (Builtin.Str.strKind ⟨s.toArray⟩<Builtin.Str.strKind blank))with
  |true=>
   rw[if_pos h1] at hc
   exact ij (call_meets PySem.F.slot_str_split (typeIs_str _ _ _) PySem.F.entry_str_split (PySem.F.args_str_split_2 _ _) (meets_str_split_cannot_occur ⟨s.toArray⟩ blank t t1 h1) (self (of_decide_eq_true hc)))
  |false=>
   rw[if_neg (by rw[h1];decide)] at hc
   cases hf:(Builtin.Str.occurrences ⟨s.toArray⟩ blank 0 (⟨s.toArray⟩:Str).length ((⟨s.toArray⟩:Str).length+1)).isEmpty with
   |true=>
    rw[if_pos hf] at hc
    exact ij (call_meets PySem.F.slot_str_split (typeIs_str _ _ _) PySem.F.entry_str_split (PySem.F.args_str_split_2 _ _) (meets_str_split_not_found ⟨s.toArray⟩ blank t t1 h1 rfl hf) (self (of_decide_eq_true hc)))
   |false=>
    rw[if_neg (by rw[hf];decide),Bool.and_eq_true,Bool.and_eq_true] at hc
    have c1:=of_decide_eq_true hc.1.1
    refine ij (call_meets PySem.F.slot_str_split (typeIs_str _ _ _) PySem.F.entry_str_split (PySem.F.args_str_split_2 _ _) (meets_str_split_sep ⟨s.toArray⟩ blank t t1 h1 rfl hf ?_ ?_) (yG _ S q c1 (Kh _ _)))
    ·exact a0▸Ta (Nat.le_of_lt (of_decide_eq_true hc.1.2)) (by unfold lim;decide)
    ·rw[<-TN (f:=fun x:Str=>x.cps.toList),c1]
     exact a0▸Ta (Nat.le_of_lt (of_decide_eq_true hc.2)) (by unfold lim;decide)) h) h
theorem Ko{s:List UInt8}{t:Tok}(S:Sat c w μ)(h:Om s K l μ):fC c w.F w.a l us->WP c [] A (call (.builtin "bytes.replace") (.bytes s.toArray t::us)) w (PK c K):=
 H7 h fun v v' u u' h=>aB v (fun x h=>km x (fun p h=>jh p (fun x h C1=>aB v' (fun y h=>km y (fun y h C2=>by
  obtain⟨t1,rfl⟩:=C1
  obtain⟨t2,rfl⟩:=C2
  have hc:=yE _ h.1
  unfold B7 at hc
  refine .val S h.2 (wpAny_call_entry Cv (PySem.W.typeIs_bytes _ _ _) Ha ?_ (J1 _ _ _))
  rw[show([x]:List UInt8).toArray=#[x]from rfl,Dy]
  dsimp only at hc⊢
  rw[if_neg (show¬(#[x]:Array UInt8).isEmpty=true from Bool.false_ne_true),show((#[x]:Array UInt8).isEmpty&&y.toArray.isEmpty)=false from rfl,Bool.or_false]
  by_cases h0:(Builtin.Bytes.occurrences s.toArray #[x] 0 s.toArray.size).isEmpty=true
  ·rw[if_pos h0] at hc⊢
   rw[of_decide_eq_true hc]
   exact wpAny_bind (wpAny_rule (wpAny_pure ⟨_,rfl,rfl,rfl,rfl,_,rfl⟩))
  ·rw[if_neg h0,Bool.and_eq_true,Bool.and_eq_true] at hc
   rw[if_neg h0,if_neg (show¬Builtin.Bytes.tooLong _=true from fun e=>absurd (of_decide_eq_true hc.1.2) (Nat.not_lt.mpr (Ta (a0▸(show 10000<=lim by unfold lim;decide)) (Nat.le_of_lt (of_decide_eq_true e)))))]
   have e:Builtin.Bytes.joined y.toArray (Builtin.Bytes.between s.toArray (#[x]:Array UInt8).size (Builtin.Bytes.occurrences s.toArray #[x] 0 s.toArray.size))=(cW x y s).toArray:=(Array.toArray_toList (xs:=_)).symm.trans (congrArg List.toArray (of_decide_eq_true hc.1.1))
   rw[e]
   exact wpAny_bind (wpAny_mkBytes (wpAny_pure ⟨_,rfl,rfl,rfl,rfl,_,rfl⟩) (by rw[List.size_toArray,a0];exact Ta (Nat.le_of_lt (of_decide_eq_true hc.2)) (by unfold lim;decide)))) h) h) h) h) h
theorem JI{s:List UInt8}{t:Tok}(S:Sat c w μ)(h:NU s K l μ):fC c w.F w.a l us->WP c [] A (call (.builtin "bytes.find") (.bytes s.toArray t::us)) w (PK c K):=
 H7 h fun v v' u u' h=>aB v (fun x h=>km x (fun p h=>vo p (fun a b h C1=>aB v' (fun y h=>bC y (fun i h C2=>by
  obtain⟨t1,rfl⟩:=C1
  obtain⟨t2,rfl⟩:=C2
  obtain⟨h0,h1,hz,q⟩:=h
  refine .val S q (wpAny_call_entry Cz (PySem.W.typeIs_bytes _ _ _) Ii ?_ (K_ _ _ _))
  have e:=Bn s i.toNat a b h1
  rw[Int.toNat_of_nonneg h0] at e
  rw[show([a,b]:List UInt8).toArray=#[a,b]from rfl,ED,e]
  cases bV a b (s.drop i.toNat) i.toNat with
  |some k=>exact wpAny_bind (wpAny_mkInt (wpAny_pure ⟨_,rfl,rfl,rfl,rfl,_,rfl⟩))
  |none=>exact wpAny_bind (wpAny_rule (wpAny_bind (wpAny_mkInt (wpAny_pure ⟨_,rfl,rfl,rfl,rfl,_,rfl⟩))))) h) h) h) h) h
theorem vn{a:Addr}{o:Obj}{fd:FuncData}{h:Heap}(ho:h.get? a=some o)(hd:o.data=.func fd):rO c (.ref a) h:=by
 obtain⟨oc,od,dt,sl⟩:=o
 cases hd
 exact⟨.frame,.inl rfl,(Looks.ld (part:=none) ho).andThen .now⟩
theorem zu{x:Str}(z:Int×Int×Nat×Tok×Tok×Tok×Tok)(d:List UInt8)(i:Int)(e1:x≠Str.ofString "data")(e2:x≠Str.ofString "at"):shadowIn (some (wk z d i)) x=some false:=by
 have a1:(Str.ofString "data"==x)=false:=beq_eq_false_iff_ne.mpr (Ne.symm e1)
 have a2:(Str.ofString "at"==x)=false:=beq_eq_false_iff_ne.mpr (Ne.symm e2)
 show(lookIn x (W.dictOf _ _)).map (·.isSome)=some false
 rw[lookIn_dict]
 unfold getL
 simp[List.find?,Value.isStr,a1,a2,DictEntry.refKey]
theorem no_ref{u:Value}{h:Heap}(hu:∀a,u≠.ref a):∀a,u=.ref a->∃o,h.get? a=some o/\o.dict=none:=fun a e=>absurd e (hu a)
abbrev Ql(c:Cx)(A:Around)(w:Wd)(x:Str)(u:Value)(f:Mu->KL->Prop)(μ:Mu)(K:KV):Prop:=∃Q,f μ Q/\Sd c A w x u Q K
theorem ND{f:Mu->KL->Prop}(S:Sat c w μ)(C:CV c w.F w.a (.loc k) u)(h:iy μ k (pm (fun l=>f μ (MV k K)) F1 (fun l=>f μ (Jk k K)) F2 F1)):Ql c A w (Str.ofString "append") u f μ K:=by
 obtain⟨m,p,e1,e2,rfl,M,q⟩:=tT S h C
 revert e1 M
 refine lY m (fun l q e1 M=>⟨_,q,?_⟩) (fun l=>TO) (fun l q e1 M=>⟨_,q,?_⟩) (fun l p=>TO) (fun l=>TO) q
 ·obtain⟨e,vs,hl,d⟩:=M
  rw[<-e] at hl
  exact oH hl.isList.typeIs PySem.F.plainAttrs_list slot_list_append Jm (fun b hb=>by cases hb;exact hl.elim fun n e=>⟨_,e,rfl⟩) fun us w2 l μ st S C' q=>QO S q (st.cv C) C'
 ·obtain⟨e,hb⟩:=M
  rw[<-e] at hb
  exact oH ⟨_,hb,rfl⟩ E9 C0 Jp (fun b e=>by cases e;exact⟨_,hb,rfl⟩) fun us w2 l μ st S C' q=>RM S q (st.cv C) C'
theorem Mn(G:Good c){A:Around}{f:Mu->KL->Prop}{i:Nat}(hA:ru A n)(hm:c.g.G5 x (.own i)=true)(S:Sat c w μ)(C:CV c w.F w.a (.loc k) u)(h:iy μ k (mW fun d p=>f μ (R7 n i k K))):Ql c A w x u f μ K:=by
 obtain⟨m,p,e1,e2,rfl,M,q⟩:=tT S h C
 obtain⟨a,g1,g2,g3,g4,g5⟩:=G.own x i hm
 obtain⟨o,fd,ho,hd⟩:=G.fn i a g1
 revert e1 M
 refine lY m (fun l=>TO) (fun l=>TO) (fun l=>TO) (fun d j q e1 M=>⟨_,q,fun pl=>⟨.ref a,[.ref p.1],fun P hp=>?_,fun us w2 l μ st S C' q=>⟨vn (S.sub _ _ (S.base _ _ ho)) hd,q c A w2 _ a G g1 hA S ⟨_,_,rfl,st.cv C,C'⟩⟩⟩⟩) (fun l=>TO) q
 obtain⟨M1,z,M2⟩:=M
 exact .same (method_fn (fun b o e=>S.sub _ _ (S.base _ _ (G.KX b o e))) ⟨S.sub _ _ M1,rfl,rfl,M2⟩ G.wire.ga G.ga g2 g3 (zu z d j g4 g5) ⟨rfl,rfl,rfl,hp⟩)
theorem M0(G:Good c){A:Around}{f:Mu->KL->Prop}{v:V}{m:Mt}(hA:ru A n)(hm:c.g.G5 x m=true)(S:Sat c w μ)(h:RO n m f K v μ):CV c w.F w.a v u->Ql c A w x u f μ K:=by
 have nm:=G.bm x m
 cases m with
 |append=>cases nm _ hm rfl;exact iR v (fun k h C=>ND S C h) h
 |own i=>exact iR v (fun k h C=>Mn G hA hm S C h) h
 |join=>
  cases nm _ hm rfl
  exact aB v (fun d h=>cJ d TO (fun x=>TO) (fun x=>TO)
   (fun s q C=>C.elim fun t e=>e▸⟨_,q,oH (typeIs_str _ _ _) PySem.F.plainAttrs_str PySem.F.slot_str_join PySem.F.type_str_join (no_ref nofun) fun us w2 l μ st S C' q=>r6 q (fun v u h C=>by obtain⟨l,a,vs,rfl,hl,d,q⟩:=G9 S h C;exact EA S hl d q) C'⟩)
   (fun s q C=>C.elim fun t e=>e▸⟨_,q,oH (PySem.W.typeIs_bytes _ _ _) FB.plainAttrs_bytes Ca IT (no_ref nofun) fun us w2 l μ st S C' q=>r6 q (fun v u h=>aB v (fun d h=>oP d (fun l h C=>by
    obtain⟨r,e,hz,q⟩:=iC h
    cases KR e
    obtain⟨a,vs,rfl,hl,d⟩:=bf.mp C
    exact .val S q (wpAny_call_entry Ca (PySem.W.typeIs_bytes _ _ _) F9 (Eo (aE S.sub hl) d (a0▸hz) fun t' k=>⟨rfl,rfl,rfl,_,rfl⟩) (IS _ _))) h) h) C'⟩)
   (fun x=>TO) (fun x=>TO) (fun x=>TO) h) h
 |split=>cases nm _ hm rfl;exact aB v (fun d h=>nk d (fun s q C=>C.elim fun t e=>e▸⟨_,q,oH (typeIs_str _ _ _) PySem.F.plainAttrs_str PySem.F.slot_str_split PySem.F.type_str_split (no_ref nofun) fun us w2 l μ st S C' q=>GS S q C'⟩) h) h
 |lower=>cases nm _ hm rfl;exact aB v (fun d h=>nk d (fun s q C=>C.elim fun t e=>e▸⟨_,q,oH (typeIs_str _ _ _) PySem.F.plainAttrs_str PySem.F.slot_str_lower PySem.F.type_str_lower (no_ref nofun) fun us w2 l μ st S C' q=>Fq S q C'⟩) h) h
 |replace=>cases nm _ hm rfl;exact aB v (fun d h=>km d (fun s q C=>C.elim fun t e=>e▸⟨_,q,oH (PySem.W.typeIs_bytes _ _ _) FB.plainAttrs_bytes Cv Kq (no_ref nofun) fun us w2 l μ st S C' q=>Ko S q C'⟩) h) h
 |find=>cases nm _ hm rfl;exact aB v (fun d h=>km d (fun s q C=>C.elim fun t e=>e▸⟨_,q,oH (PySem.W.typeIs_bytes _ _ _) FB.plainAttrs_bytes Cz Ld (no_ref nofun) fun us w2 l μ st S C' q=>JI S q C'⟩) h) h
end
section
noncomputable def owners:List String:=["enumerate","zip","dict_itemiterator","dict_reverseitemiterator","odict_iterator","itertools.zip_longest","itertools.pairwise"]
def Quiet(h:Heap)(I:Addr):Prop:=∃o T,h.get? I=some o/\o.cls=.type T/\owners.contains T=false
theorem oW{prog:Program}{w:World}{A:Around}{E:Value->Shared->Prop}{s:Shared}{te:Expr}{I:Addr}{v:Value}{Q:Unit->Shared->Prop}(q:Quiet s.heap I)(h:Q () s):wpAny (model prog w) A (letOwnedTupleGo te (.ref I) v) Q E s:=by
 obtain⟨o,T,ho,hc,hT⟩:=q
 have body:wpAny (model prog w) A (do
  let(.ref r,.ref a):=((Value.ref I,v):Value×Value)|return
  let o<-load r
  match o.cls,o.data with
  |.type n,.fields vs=>
   if["enumerate","zip","dict_itemiterator","dict_reverseitemiterator","odict_iterator","itertools.zip_longest","itertools.pairwise"].contains n&&vs[0]? ==some (rawInt a)then
    rule "for.unpacks-the-owned-tuple"
    updateField r 0 .none
  |_,_=>pure ()) Q E s:=by
  cases v with
  |ref a=>
   refine wpAny_bind (wpAny_load ho ?_)
   rw[hc]
   split
   ·rename_i T' x heq y
    cases heq
    rw[show["enumerate","zip","dict_itemiterator","dict_reverseitemiterator","odict_iterator","itertools.zip_longest","itertools.pairwise"].contains T=false from hT]
    exact wpAny_pure h
   ·exact wpAny_pure h
  |_=>exact wpAny_pure h
 unfold letOwnedTupleGo
 split
 ·exact body
 ·exact body
 ·exact wpAny_pure h
section
variable{c:Cx}{L:List Addr}{w w':Wd}{μ:Mu}{tt:Bool}{I:Addr}{fp pv:List Addr}{n:Nat}{A:Around}
theorem mG(k:Le w.F w.h)(x:Step c L w w')(S:Sat c w' μ)(hL:∀b∈pv,b∉L)(hp:∀b∈pv,Pv c w b)(fpF:∀b∈fp,b∈pv\/Al w.F b):∀b∈fp,∀o,w.h.get? b=some o->w'.h.get? b=some o:=fun b hb o e=>
 (fpF b hb).elim (fun q=>x.jx (hp b q) (hL b q) e) fun q=>q.elim fun o' q=>S.sub _ _ (x.grow _ _ (Option.some.inj ((k b o' q).symm.trans e)▸q))
theorem C8{F F':Heap}(k:Le F F')(fpF:∀b∈fp,b∈pv\/Al F b):∀b∈fp,b∈pv\/Al F' b:=fun b hb=>(fpF b hb).imp id k.al
theorem eW{P:Addr->Prop}(h:P I):∀b∈[I],P b:=fun b hb=>List.mem_singleton.mp hb▸h
theorem El{P:Nat->Value->Prop}{St:Nat->Heap->Prop}(W:∀A:Around,A.handled=none->Walks c.prog c.w A I fp [I] n P St)(q:∀i h,St i h->Quiet h I)(items:List V):∀i w,Le w.F w.h->Pv c w I->St i w.h->i+items.length=n->(∀b∈fp,b∈[I]\/Al w.F b)->
  (∀j v,i+j<n->P (i+j) v->∃x,items[j]? =some x/\CV c w.F w.a x v)->Iter c tt none I [I] items w:=by
 induction items with
 |nil=>
  refine fun i w k hp st e fpF val w' L μ A x hL S hg hh=>.N3 S (eW (x.pv (hL I (.head _)) hp)) ((W A hh).done w'.s _ _ (e▸(W {} rfl).frame _ _ _ st (mG k x S hL (eW hp) fpF)) fun h' tk g3=>⟨rfl,rfl,fun b o e hb=>g3 b o hb e,fun st S=>⟨rfl,S⟩⟩)
 |cons y items ih=>
  intro i w k hp st e fpF val w' L μ A te x hL S hg hh ht
  have hp':=x.pv (hL I (.head _)) hp
  refine .N3 S (eW hp') ((W A hh).item i w'.s _ _ (e▸Nat.lt_add_of_pos_right (Nat.zero_lt_succ _)) ((W {} rfl).frame _ _ _ st (mG k x S hL (eW hp) fpF)) fun v h' tk g1 g2 g3=>⟨rfl,rfl,fun b o e hb=>g3 b o hb e,fun st2 S2=>⟨v,rfl,?_⟩⟩)
  obtain⟨z,e1,C⟩:=val 0 v (e▸Nat.lt_add_of_pos_right (Nat.zero_lt_succ _)) g1
  cases e1
  have ql:=q _ _ g2
  refine .same (oW ql ⟨rfl,rfl,rfl,S2,x.cv C,ih (i+1) _ S2.sub ⟨hp'.f,hp'.o,hp'.t,ql.elim fun o q=>q.elim fun T q=>⟨o,q.1⟩⟩ g2 ((Nat.succ_add_eq_add_succ i _).trans e) (C8 x.grow fpF) fun j v hj hP=>?_⟩)
  rw[Nat.add_right_comm i 1 j] at hj hP
  exact(val (j+1) v hj hP).imp fun z q=>⟨q.1,x.cv q.2⟩
theorem D4{e it:Addr}{Pt:Nat->Array Value->Prop}{St:Nat->Heap->Prop}{Mid:Nat->Addr->Heap->Prop}(ht:tt=true)(W:∀A:Around,A.handled=none->WalksT c.prog c.w A e fp [e,it] n Pt St Mid)(q:∀i h,St i h->∀b∈[e,it],Al h b)(qm:∀i T h,Mid i T h->∀b∈[e,it],Al h b)(items:List V):∀i w,Le w.F w.h->(∀b∈[e,it],Pv c w b)->St i w.h->i+items.length=n->(∀b∈fp,b∈[e,it]\/Al w.F b)->
  (∀j vs,i+j<n->Pt (i+j) vs->∃ds,items[j]? =some (.d (.tuple ds))/\jm c w.F ds vs.toList)->Iter c tt none e [e,it] items w:=by
 induction items with
 |nil=>
  refine fun i w k hp st z fpF val w' L μ A x hL S hg hh=>.N3 S (fun b hb=>x.pv (hL b hb) (hp b hb)) ((W A hh).done w'.s _ _ (z▸(W {} rfl).frame _ _ _ st (mG k x S hL hp fpF)) fun h' tk g3=>⟨rfl,rfl,fun b o e hb=>g3 b o hb e,fun st S=>⟨rfl,S⟩⟩)
 |cons y items ih=>
  intro i w k hp st z fpF val w' L μ A te x hL S hg hh htt
  have hp':∀b∈[e,it],Pv c w' b:=fun b hb=>x.pv (hL b hb) (hp b hb)
  refine ij ((W A hh).item i w'.s _ _ (z▸Nat.lt_add_of_pos_right (Nat.zero_lt_succ _)) ((W {} rfl).frame _ _ _ st (mG k x S hL hp fpF)) fun T vals h' tk g1 g2 g3 g4 g5=>?_)
  have kp:∀b o,w'.h.get? b=some o->b∉[e,it]->h'.get? b=some o:=fun b o e hb=>g5 b o hb e
  have S':Sat c ⟨w'.F,w'.a,{w'.s with heap:=h',toks:=tk}⟩ μ:=S.jx kp hp'
  have nT:w'.h.get? T=none:=fh g2
  have nw:=S.new nT
  have hTp:T∉[e,it]:=(W A hh).apart _ _ _ g4
  obtain⟨oT,hoT,rT⟩:=id g3
  obtain⟨F',f1,f2,f3,S2⟩:=jz S' hoT nw.2.1 nw.2.2
  have stF:=(Step.of (s:={w'.s with heap:=h',toks:=tk}) (c:=c) (w:=w') (L:=[e,it]) rfl rfl kp).fast f2 f3 nT
  refine⟨⟨F',w'.a,{w'.s with heap:=h',toks:=tk}⟩,rfl,stF,.ref T,rfl,?_⟩
  obtain⟨ds,d1,d2⟩:=val 0 vals (z▸Nat.lt_add_of_pos_right (Nat.zero_lt_succ _)) g1
  cases d1
  have hp2:∀b∈[e,it],F'.get? b=none/\b∉w'.a.own/\b∉c.tb:=fun b hb=>⟨f3 b (fun q=>hTp (q▸hb)) (hp' b hb).f,(hp' b hb).o,(hp' b hb).t⟩
  refine je (P:=fun te=>WP c [e,it] A (letOwnedTupleGo te (.ref e) (.ref T)) _ _) te (fun es k' p u=>?_) (htt ht)
  refine ij ((W A hh).go es k' p i T _ _ _ g4 fun h2 q1 q2=>?_)
  have S3:Sat c ⟨F',w'.a,{w'.s with heap:=h2,toks:=tk}⟩ μ:=S2.jx (L:=[e,it]) (s:={w'.s with heap:=h2,toks:=tk}) (fun b o e hb=>q2 b o hb e) fun b hb=>⟨(hp2 b hb).1,(hp2 b hb).2.1,(hp2 b hb).2.2,qm _ _ _ g4 b hb⟩
  refine⟨⟨F',w'.a,{w'.s with heap:=h2,toks:=tk}⟩,rfl,Step.of (s:={w'.s with heap:=h2,toks:=tk}) (w:=⟨F',w'.a,{w'.s with heap:=h',toks:=tk}⟩) rfl rfl fun b o e hb=>q2 b o hb e,S3,cp.mpr ⟨T,vals.toList,rfl,⟨oT,f1,rT⟩,d2.mono (x.grow.trans f2)⟩,ih (i+1) _ S3.sub (fun b hb=>⟨(hp2 b hb).1,(hp2 b hb).2.1,(hp2 b hb).2.2,q _ _ q1 b hb⟩) q1 ((Nat.succ_add_eq_add_succ i _).trans z) (C8 (x.grow.trans f2) fpF) fun j v hj hP=>?_⟩
  rw[Nat.add_right_comm i 1 j] at hj hP
  exact(val (j+1) v hj hP).imp fun z q=>⟨q.1,q.2.mono (x.grow.trans f2)⟩
theorem HI{k:Nat}{l:List D}{a:Addr}(items:List D):∀i w,Pv c w I->w.a[k]? =some (a,a)->w.h.IsListIter I a i->l.drop i=items->Iter c tt (some (k,l)) I [I] (items.map .d) w:=by
 have at_l:∀{w':Wd} {μ:Mu},Sat c w' μ->w'.a[k]? =some (a,a)->Ef (some (k,l)) μ->∃vs,w'.h.IsList a vs.toArray/\jm c w'.F l vs:=fun S e hg=>(S.mo k _ _ e (hg k l rfl)).2.imp fun vs M=>⟨M.1.isList,M.2⟩
 have hi:∀{w w':Wd} {L:List Addr} {i:Nat},Step c L w w'->I∉L->Pv c w I->w.h.IsListIter I a i->w'.h.IsListIter I a i:=fun x d p h=>h.imp fun o h=>⟨x.jx p d h.1,h.2⟩
 induction items with
 |nil=>
  intro i w hp e it hd w' L μ A x hL S hg hh
  obtain⟨vs,h1,h2⟩:=at_l S (x.pr _ _ e) hg
  refine .N3 S (eW (x.pv (hL I (.head _)) hp)) (wpAny_pyNext_list_end hh (hi x (hL I (.head _)) hp it) h1 ?_ fun h' g3=>⟨rfl,rfl,fun b o e hb=>g3 b o (fun q=>hb (List.mem_singleton.mpr q)) e,fun st S=>⟨rfl,S⟩⟩)
  exact Array.getElem?_eq_none (by rw[List.size_toArray,<-h2.len];exact List.drop_eq_nil_iff.mp hd)
 |cons y items ih=>
  intro i w hp e it hd w' L μ A te x hL S hg hh ht
  have hp':=x.pv (hL I (.head _)) hp
  obtain⟨vs,h1,h2⟩:=at_l S (x.pr _ _ e) hg
  have ey:l[i]? =some y:=by have z:=congrArg (fun l:List D=>l[0]?) hd;rw[List.getElem?_drop] at z;exact z
  obtain⟨v,hv,C⟩:=h2.get ey
  refine .N3 S (eW hp') (wpAny_pyNext_list_item (hi x (hL I (.head _)) hp it) h1 (List.getElem?_toArray.trans hv) fun h' g1 g2=>⟨rfl,rfl,jQ g2,fun st S2=>⟨v,rfl,?_⟩⟩)
  refine .same (oW (g1.imp fun o q=>⟨_,q.1,q.2.1,by decide⟩) ⟨rfl,rfl,rfl,S2,C,ih (i+1) _ ⟨hp'.f,hp'.o,hp'.t,g1.imp fun o q=>q.1⟩ (x.pr _ _ e) g1 ?_⟩)
  rw[<-List.tail_drop,hd]
  rfl
def IP(c:Cx)(tt:Bool)(K:KI)(w0:Wd)(u:Value)(w:Wd):Prop:=∃I pv items g μ,u=.ref I/\Sat c w μ/\(∀b∈pv,Pv c w b/\w0.h.get? b=none)/\Ef g μ/\Iter c tt g I pv items w/\K items g μ/\
 ∀A w' L μ,A.handled=none->Step c L w w'->(∀b∈pv,b∉L)->Sat c w' μ->wpAny c.M A (pyIter (.ref I)) (fun u s=>u=.ref I/\s=w'.s) xd w'.s
theorem iJ{P:Nat->Value->Prop}{St:Nat->Heap->Prop}{K:KI}{w0:Wd}{o:Obj}{items:List V}(S:Sat c w μ)(q:K items none μ)(x:Step c [] w0 w)(W:∀A:Around,A.handled=none->Walks c.prog c.w A w.h.objs.size fp [w.h.objs.size] n P St)(ql:∀i h,St i h->Quiet h w.h.objs.size)
  (st:St 0 (w.h.push o)) (len:items.length=n) (fpF:∀b∈fp,b=w.h.objs.size\/Al w.F b) (val:∀j v,j<n->P j v->∃x,items[j]? =some x/\CV c w.F w.a x v):
  ∃w',w'.s={w.s with heap:=w.h.push o}/\Step c [] w w'/\IP c tt K w0 (.ref w.h.objs.size) w':=by
 have x1:Step c [] w ⟨w.F,w.a,{w.s with heap:=w.h.push o}⟩:=Step.keeps (s:={w.s with heap:=w.h.push o}) rfl rfl (Le.push o)
 have S1:=S.keep (s:={w.s with heap:=w.h.push o}) (Le.push o)
 have hp:Pv c ⟨w.F,w.a,{w.s with heap:=w.h.push o}⟩ w.h.objs.size:=gu (s:={w.s with heap:=w.h.push o}) S (Le.push o) (cg _) ((ql _ _ st).imp fun o q=>q.elim fun T q=>q.1)
 have n0:w0.h.get? w.h.objs.size=none:=Option.eq_none_iff_forall_ne_some.mpr fun o e=>(x.live _ ⟨o,e⟩ nofun).ne (cg _)
 have fpF':∀b∈fp,b∈[w.h.objs.size]\/Al w.F b:=fun b hb=>(fpF b hb).imp List.mem_singleton.mpr id
 refine⟨_,rfl,x1,_,[w.h.objs.size],items,none,μ,rfl,S1,eW ⟨hp,n0⟩,fun k l e=>(nomatch e),El W ql items 0 _ S1.sub hp st ((Nat.zero_add _).trans len) fpF' (fun j v hj hP=>?_),q,fun A w' L μ hh x2 hL S2=>(W A hh).self 0 w'.s _ _ ((W A hh).frame _ _ _ st (mG S1.sub x2 S2 hL (eW hp) fpF')) ⟨rfl,rfl⟩⟩
 rw[Nat.zero_add] at hj hP
 exact val j v hj hP
end
end
section
open AutoSeq1 (wpAny_loadPart')
section
variable{prog:Program}{w:World}{A:Around}{E:Value->Shared->Prop}{s:Shared}
theorem ni{it t:Addr}{i:Nat}{items:Array Value}{x:Value}{Q:Value->Shared->Prop}(hit:s.heap.IsTupleIter it t i)(ht:s.heap.IsTuple t items)(hx:items[i]? =some x)
  (hQ:∀h',h'.IsTupleIter it t (i+1)->Heap.SameBut it s.heap h'->Q x {s with heap:=h'}):wpAny (model prog w) A (Builtin.SmallTypes.nextOf (.ref it)) Q E s:=by
 obtain⟨o,ho,hc,hd⟩:=id hit
 obtain⟨ol,hol,_,nl,hdl⟩:=ht
 unfold Builtin.SmallTypes.nextOf
 refine wpAny_bind (wpAny_callSpecial?_slot (name:=Str.ofString "__next__") hit.typeIs PySem.F.slot_tuple_iterator_next
  (wpAny_call_entry PySem.F.slot_tuple_iterator_next hit.typeIs PySem.F.entry_tuple_iterator_next ?_ (PySem.F.args_tuple_iterator_next_1 _)))
 show wpAny _ _ (field (.ref it) 0>>=_) _ _ s
 refine wpAny_bind (wpAny_field ho hd (x:=.ref t) rfl ?_)
 show wpAny _ _ (if(Value.ref t==Value.none)=true then _ else _) _ _ s
 rw[if_neg (show¬((Value.ref t==Value.none)=true)from Bool.false_ne_true)]
 show wpAny _ _ (field (.ref it) 1>>=_) _ _ s
 refine wpAny_bind (wpAny_field ho hd (x:=.int i 0) rfl ?_)
 show wpAny _ _ (seqItems? (.ref t)>>=_) _ _ s
 refine wpAny_bind (wpAny_seqItems hol hdl ?_)
 simp only[Int.toNat_natCast,hx]
 refine wpAny_bind (wpAny_setField ho hd (by simp) (wpAny_pure ⟨x,rfl,wpAny_pure (hQ _ ?_ (Heap.SameBut.update ..))⟩))
 exact⟨_,Heap.get?_update_self _ ho (Obj.isFreed_of_fields (Obj.data_mapFields hd _)),(Obj.cls_mapFields ..).trans hc,by rw[Obj.data_mapFields hd];simp[rawInt]⟩
theorem ot{it t:Addr}{i:Nat}{items:Array Value}{Q:Value->Shared->Prop}(hh:A.handled=none)(hit:s.heap.IsTupleIter it t i)(ht:s.heap.IsTuple t items)(hx:items[i]? =none)
  (hE:∀h' e,Heap.ExtBut it s.heap h'->(∃o,h'.get? e=some o/\o.cls=.type "StopIteration")->E (.ref e) {s with heap:=h'}):wpAny (model prog w) A (Builtin.SmallTypes.nextOf (.ref it)) Q E s:=by
 obtain⟨o,ho,hc,hd⟩:=id hit
 obtain⟨ol,hol,_,nl,hdl⟩:=ht
 unfold Builtin.SmallTypes.nextOf
 refine wpAny_bind (wpAny_callSpecial?_slot (name:=Str.ofString "__next__") hit.typeIs PySem.F.slot_tuple_iterator_next
  (wpAny_call_entry PySem.F.slot_tuple_iterator_next hit.typeIs PySem.F.entry_tuple_iterator_next ?_ (PySem.F.args_tuple_iterator_next_1 _)))
 show wpAny _ _ (field (.ref it) 0>>=_) _ _ s
 refine wpAny_bind (wpAny_field ho hd (x:=.ref t) rfl ?_)
 show wpAny _ _ (if(Value.ref t==Value.none)=true then _ else _) _ _ s
 rw[if_neg (show¬((Value.ref t==Value.none)=true)from Bool.false_ne_true)]
 show wpAny _ _ (field (.ref it) 1>>=_) _ _ s
 refine wpAny_bind (wpAny_field ho hd (x:=.int i 0) rfl ?_)
 show wpAny _ _ (seqItems? (.ref t)>>=_) _ _ s
 refine wpAny_bind (wpAny_seqItems hol hdl ?_)
 simp only[Int.toNat_natCast,hx]
 refine wpAny_bind (wpAny_rule (wpAny_bind (wpAny_setField ho hd (by simp) ?_)))
 show wpAny _ _ (newExc (.type "StopIteration") []>>=_) _ _ _
 refine wpAny_bind ?_
 simp only[newExc,newTuple]
 refine wpAny_bind (wpAny_newObj_type ?_ (by size_fits))
 refine wpAny_bind (m:=firstArgMember _ _) (wpAny_of_eq (a:=Value.none) (by first|rfl|(simp only[firstArgMember];rfl)) ?_)
 refine wpAny_newObj_type ?_ (by size_fits)
 simp only[raiseNew]
 refine wpAny_bind (wpAny_handled ?_)
 first|rw[show A.in1.handled=none from hh]|rw[hh]
 refine wpAny_bind (wpAny_pure (wpAny_throw ?_))
 exact hE _ _ (((Heap.SameBut.update ..).extBut.push _).push _) ⟨_,Heap.get?_push_size _ rfl,rfl⟩
theorem yO(hh:A.handled=none)(it t:Addr)(hne:t≠it)(items:Array Value):
  Draws prog w A it [it,t] items.size (fun i v=>items[i]? =some v) (fun i h=>h.IsTupleIter it t i/\h.IsTuple t items) where
 live:=fun _ _ st=>let⟨o,ho,_⟩:=st.1;⟨o,ho⟩
 frame:=fun _ _ _ st hk=>⟨st.1.at fun o e=>hk it (by simp) o e,st.2.at fun o e=>hk t (by simp) o e⟩
 item:=fun i s Q E hi st hQ=>by
  refine ni st.1 st.2 (x:=items[i]) (by simp[hi]) fun h' hit' hs'=>?_
  exact hQ _ h' s.toks (by simp[hi]) ⟨hit',st.2.extBut hs'.extBut hne⟩ hs'
 done:=fun s Q E st hE=>ot hh st.1 st.2 (by simp) hE
noncomputable abbrev nv(l:Addr):Obj:={cls:=.type "tuple_iterator",data:=.fields #[.ref l,.int 0 0]}
theorem Gm{α:Type}{M:Model}{A:Around}{a:α}{Q:α->Shared->Prop}{E:Value->Shared->Prop}{s:Shared}(h:∀a,Q a s):wpAny M A (pure a) Q E s:=wpAny_pure (h a)
theorem n9(l:Addr)(items:Array Value)(n:Nat)(dct:Option Addr)(sl:Array (Option Value)):
  Meets (Builtin.«enumerate.__new__» ⟨[.type "enumerate",.ref l],[]⟩) (fun _ R s=>s.heap.get? l=some {cls:=.type "tuple",dict:=dct,data:=.seq items n,slots:=sl}/\
   R (.ok (.ret (.ref (s.heap.push (nv l)).objs.size)))
    {s with heap:=(s.heap.push (nv l)).push {cls:=.type "enumerate",data:=.fields #[.none,.bool false,.ref s.heap.objs.size,rawInt 0,.none,.none]}}):=
 .of_wp fun prog w A R s h=>by
  obtain⟨hp,g,d,tk,os⟩:=s;obtain⟨hl,h⟩:=h
  have hsub:=sub_enumerate
  have hL:Heap.IsTuple (Shared.heap ⟨hp,g,d,tk,os⟩) l items:=⟨_,hl,rfl,n,rfl⟩
  wp_walk using wpAny_loadPart' hl
  refine wpAny_stack_any fun st=>Gm fun b=>?_
  cases b
  ·wp_walk using wpAny_loadPart' hl,wpAny_pyIter_tuple hL
   exact⟨_,rfl,h⟩
  ·wp_walk using wpAny_loadPart' hl,wpAny_pyIter_tuple hL
   exact⟨_,rfl,h⟩
theorem pb{l:Addr}{items:Array Value}{Q:Value->Shared->Prop}(hL:s.heap.IsTuple l items)
  (h:∀h',IsEnum h' (s.heap.objs.size+1) s.heap.objs.size 0 .none->h'.IsTupleIter s.heap.objs.size l 0->h'.objs.size=s.heap.objs.size+2->
   (∀b o,s.heap.get? b=some o->h'.get? b=some o)->Q (.ref (s.heap.objs.size+1)) {s with heap:=h'}):
  wpAny (model prog w) A (call (.type "enumerate") [.ref l]) Q E s:=by
 obtain⟨⟨c,dct,dt,sl⟩,hl,hc,n,hd⟩:=hL
 replace hc:c=.type "tuple":=hc
 replace hd:dt=.seq items n:=hd
 subst hc hd
 refine callType_new PySem.F.called_enumerate (by decide) (PySem.F.typeCall_enumerate_1 _) (PySem.F.newCall_enumerate_1 _) (fun obj=>PySem.F.args_object_init_2 obj _) PySem.F.entry_enumerate_new
  (n9 l items n dct sl) ⟨hl,?_⟩
 have hz:(s.heap.push (nv l)).objs.size=s.heap.objs.size+1:=Heap.size_push ..
 show _/\_
 rw[hz]
 have he:IsEnum ((s.heap.push (nv l)).push {cls:=.type "enumerate",data:=.fields #[.none,.bool false,.ref s.heap.objs.size,rawInt 0,.none,.none]}) (s.heap.objs.size+1) s.heap.objs.size 0 .none:=by
  have:=Heap.get?_push_size (s.heap.push (nv l)) (o:={cls:=.type "enumerate",data:=.fields #[.none,.bool false,.ref s.heap.objs.size,rawInt 0,.none,.none]}) rfl
  rw[hz] at this;exact this
 exact⟨⟨_,he,rfl⟩,h _ he ⟨_,Heap.get?_push_of_some _ (Heap.get?_push_size _ rfl),rfl,rfl⟩ (by rw[Heap.size_push,hz]) fun b o x=>Heap.get?_push_of_some _ (Heap.get?_push_of_some _ x)⟩
end
section
variable{c:Cx}{A:Around}{w w0:Wd}{μ:Mu}{K:KI}{tt:Bool}{u:Value}{v:V}
theorem EW{α β:Type}{l:List α}{f:α->β}{j:Nat}{a:α}(h:l.toArray[j]? =some a):(l.map f)[j]? =some (f a):=by rw[List.getElem?_map,List.getElem?_toArray.symm.trans h];rfl
theorem yI{l:List D}{F:Heap}{ads:lI}{j:Nat}{v:Value}(h:∃y,l[j]? =some y/\CD c F y v):∃y,(l.map V.d)[j]? =some y/\CV c F ads y v:=h.imp' V.d fun y h=>⟨by rw[List.getElem?_map,h.1];rfl,h.2⟩
theorem FD{b:List UInt8}(S:Sat c w μ)(x:Step c [] w0 w)(q:K ((b.map fun c=>D.int (c.toNat:Int)).map .d) none μ):CD c w.F (.bytes b) u->WP c [] A (pyIter u) w (IP c tt K w0):=by
 rintro⟨t,rfl⟩
 refine ij (KBw.pyIter_bytes (iJ S q x (fun A hh=>KBw.walks hh _ b.toArray t) (fun i h e=>e.imp fun o e=>⟨_,e.1,e.2.1,by decide⟩) ⟨_,Heap.get?_push_size _ rfl,rfl,rfl⟩ (by rw[TN,TN];rfl) (fun b hb=>.inl (List.mem_singleton.mp hb)) ?_))
 rintro j v hj ⟨x,u,e,rfl⟩
 exact yI ⟨D.int (x.toNat:Int),EW e,u,rfl⟩
theorem qX{l:List Nat}{F:Heap}{j:Nat}{v:Value}(h:SignAt ⟨l.toArray⟩ j v):∃y,(l.map fun c=>D.str [c])[j]? =some y/\CD c F y v:=by
 obtain⟨y,u,e,rfl⟩:=h
 exact⟨_,EW e,u,rfl⟩
theorem M4{l:List Nat}(S:Sat c w μ)(x:Step c [] w0 w)(q:K ((l.map fun c=>D.str [c]).map .d) none μ):CD c w.F (.str l) u->WP c [] A (pyIter u) w (IP c tt K w0):=by
 rintro⟨t,rfl⟩
 have hl:((l.map fun c=>D.str [c]).map V.d).length=(⟨l.toArray⟩:Str).cps.size:=by rw[TN,TN];rfl
 cases ha:(⟨l.toArray⟩:Str).cps.all (·<128)
 ·exact ij (wpAny_pyIter_wide ha (iJ S q x (fun A hh=>Walks.strWide hh _ _ t) (fun i h e=>e.imp fun o e=>⟨_,e.1,e.2.1,by decide⟩) ⟨_,Heap.get?_push_size _ rfl,rfl,rfl⟩ hl (fun b hb=>.inl (List.mem_singleton.mp hb)) fun j v hj h=>yI (qX h)))
 ·exact ij (wpAny_pyIter_ascii ha (iJ S q x (fun A hh=>Walks.strAscii hh _ _ t) (fun i h e=>e.imp fun o e=>⟨_,e.1,e.2.1,by decide⟩) ⟨_,Heap.get?_push_size _ rfl,rfl,rfl⟩ hl (fun b hb=>.inl (List.mem_singleton.mp hb)) fun j v hj h=>yI (qX h)))
theorem Bd{F:Heap}{l:List D}{vs:List Value}{j:Nat}{v:Value}(d:jm c F l vs)(e:vs.toArray[j]? =some v):∃y,l[j]? =some y/\CD c F y v:=by
 have e:=List.getElem?_toArray.symm.trans e
 have hj:j<l.length:=d.len▸(List.getElem?_eq_some_iff.mp e).1
 obtain⟨v',e',C⟩:=d.get (List.getElem?_eq_getElem hj)
 exact⟨_,List.getElem?_eq_getElem hj,Option.some.inj (e'.symm.trans e)▸C⟩
theorem Bl{I a:Addr}{F:Heap}(ha:Al F a):∀b∈[I,a],b=I\/Al F b:=fun b hb=>(List.mem_cons.mp hb).imp id fun q=>by rw[List.mem_singleton.mp q];exact ha
theorem NY{l:List D}(S:Sat c w μ)(x:Step c [] w0 w)(q:K (l.map .d) none μ)(C:CD c w.F (.tuple l) u):WP c [] A (pyIter u) w (IP c tt K w0):=by
 obtain⟨a,vs,rfl,ht,d⟩:=cp.mp C
 have ha:Al w.F a:=ht.imp fun o h=>h.1
 have ht':w.h.IsTuple a vs.toArray:=ht.keeps S.sub
 exact ij (wpAny_pyIter_tuple ht' (iJ S q x (fun A hh=>Walks.tuple hh _ a (Nat.ne_of_lt ((Le.al S.sub ha).elim fun o e=>Heap.lt_size e)) vs.toArray) (fun i h e=>e.1.imp fun o e=>⟨_,e.1,e.2.1,by decide⟩)
  ⟨⟨_,Heap.get?_push_size _ rfl,rfl,rfl⟩,ht'.imp fun o e=>⟨Heap.get?_push_of_some _ e.1,e.2⟩⟩ (by rw[TN,d.len];rfl) (Bl ha) fun j v hj e=>yI (Bd d e)))
theorem I7{l:List D}(S:Sat c w μ)(x:Step c [] w0 w)(q:K (l.map .d) none μ)(C:CD c w.F (.list l) u):WP c [] A (pyIter u) w (IP c tt K w0):=by
 obtain⟨a,vs,rfl,ht,d⟩:=bf.mp C
 have ha:Al w.F a:=ht.imp fun o h=>h.1
 have ht':=aE S.sub ht
 exact ij (wpAny_pyIter_list ht' (iJ S q x (fun A hh=>Walks.list hh _ a (Nat.ne_of_lt ((Le.al S.sub ha).elim fun o e=>Heap.lt_size e)) vs.toArray) (fun i h e=>e.1.imp fun o e=>⟨_,e.1,e.2.1,by decide⟩)
  ⟨⟨_,Heap.get?_push_size _ rfl,rfl,rfl⟩,ht'.push _⟩ (by rw[TN,d.len];rfl) (Bl ha) fun j v hj e=>yI (Bd d e)))
theorem NK{k:Nat}{l:List D}{a:Addr}{vs:List Value}(S:Sat c w μ)(x:Step c [] w0 w)(q:K (l.map .d) (some (k,l)) μ)(hm:μ[k]? =some (.list l))(e:w.a[k]? =some (a,a))(hl:w.h.IsList a vs.toArray):WP c [] A (pyIter (.ref a)) w (IP c tt K w0):=by
 refine ij (wpAny_pyIter_list hl ?_)
 have hi:(w.h.push {cls:=.type "list_iterator",data:=.fields #[.ref a,.int 0 0]}).IsListIter w.h.objs.size a 0:=⟨_,Heap.get?_push_size _ rfl,rfl,rfl⟩
 have hp:=gu (s:={w.s with heap:=w.h.push {cls:=.type "list_iterator",data:=.fields #[.ref a,.int 0 0]}}) S (Le.push _) (cg _) (hi.imp fun o q=>q.1)
 refine⟨⟨w.F,w.a,{w.s with heap:=w.h.push {cls:=.type "list_iterator",data:=.fields #[.ref a,.int 0 0]}}⟩,rfl,Step.keeps (s:={w.s with heap:=w.h.push _}) rfl rfl (Le.push _),_,[w.h.objs.size],_,_,μ,rfl,S.keep (s:={w.s with heap:=w.h.push _}) (Le.push _),eW ⟨hp,Option.eq_none_iff_forall_ne_some.mpr fun o e=>(x.live _ ⟨o,e⟩ nofun).ne (cg _)⟩,
  fun k' l' e'=>by cases e';exact hm,HI l 0 _ hp e hi rfl,q,fun A w' L μ hh x2 hL S2=>wpAny_pyIter_listiter (hi.imp fun o h=>⟨x2.jx hp (hL _ (.head _)) h.1,h.2⟩) ⟨rfl,rfl⟩⟩
theorem O9(S:Sat c w μ)(x:Step c [] w0 w)(h:RV K v μ):CV c w.F w.a v u->WP c [] A (pyIter u) w (IP c tt K w0):=
 qh v (fun d h=>by
  obtain⟨l,e,hz,q⟩:=iC h
  cases d with
  |bytes l=>cases e;exact FD S x q
  |str l=>cases e;exact M4 S x q
  |tuple l=>cases e;exact NY S x q
  |list l=>cases e;exact I7 S x q
  |_=>cases e) (fun k h C=>by
  obtain⟨l,t,vs,e1,e2,rfl,hl,d,hz,q⟩:=KY S h C
  exact NK S x q e1 e2 hl.isList) h
theorem L7{k:Nat}{r:Addr}{t1 t2 t3:Tok}(S:Sat c w μ)(x:Step c [] w0 w)(hr:IsRange w.h r 0 k 1 t1 t2 t3)(hk:k<=lim)(q:K ((List.range k).map fun i:Nat=>V.int (i:Int)) none μ):WP c [] A (pyIter (.ref r)) w (IP c tt K w0):=by
 refine ij (wpAny_pyIter_range hr (small_one (by decide) (by decide) (Int.le_trans (by decide) (Int.natCast_nonneg k)) (Int.lt_of_le_of_lt (Int.ofNat_le.mpr hk) (by unfold lim;decide))) ?_)
 rw[rangeSize_one,show(if(0:Int)<k then(k:Int)-0 else 0)=k by split<;>omega]
 refine iJ S q x (n:=k) (fun A hh=>Walks.range hh _ 0 1 k) (fun i h e=>⟨_,_,e,rfl,by decide⟩) ?_ (by rw[TN,List.length_range]) (fun b hb=>.inl (List.mem_singleton.mp hb)) ?_
 ·have z:=Heap.get?_push_size w.h (o:={cls:=.type "range_iterator",data:=.fields #[rawInt 0,rawInt (k:Int),rawInt 1]}) rfl
  simpa [IsRangeIter] using z
 ·rintro j v hj ⟨t,rfl⟩
  exact⟨V.int (j:Int),by rw[List.getElem?_map,List.getElem?_range hj];rfl,t,congrArg (Value.int · t) (by omega)⟩
theorem GQ{i:Int}(S:Sat c w μ)(x:Step c [] w0 w)(h:0<=i/\i<=lim/\K ((List.range i.toNat).map fun i:Nat=>V.int (i:Int)) none μ):CD c w.F (.int i) u->WP c [] A (call (.type "range") [u]) w (fun r w1=>∀A,WP c [] A (pyIter r) w1 (IP c tt K w0)):=by
 rintro⟨t,rfl⟩
 obtain⟨h0,h1,q⟩:=h
 obtain⟨k,rfl⟩:=Int.eq_ofNat_of_zero_le h0
 refine ij (call_range_1 ?_)
 have x1:Step c [] w ⟨w.F,w.a,_⟩:=Step.keeps (s:={w.s with heap:=w.h.push {cls:=.type "range",data:=.fields #[.int 0 w.s.toks,.int k t,.int 1 (w.s.toks+1)]},toks:=w.s.toks+1+1}) rfl rfl (Le.push _)
 exact⟨_,rfl,x1,fun A=>L7 (S.keep (s:={w.s with heap:=w.h.push {cls:=.type "range",data:=.fields #[.int 0 w.s.toks,.int k t,.int 1 (w.s.toks+1)]},toks:=w.s.toks+1+1}) (Le.push _)) (x.trans x1) (IsRange.new ..) (Int.ofNat_le.mp h1) q⟩
theorem wZ{e it:Addr}{fp:List Addr}{m:Nat}{P:Nat->Value->Prop}{St:Nat->Heap->Prop}{l:List D}(S:Sat c w μ)(q:K (l.zipIdx.map fun p=>V.d (.tuple [.int (p.2:Int),p.1])) none μ)(D:∀A:Around,A.handled=none->Draws c.prog c.w A it fp m P St)(hei:e≠it)(hef:e∉fp)(hif:it∈fp)
  (hp:∀b∈[e,it],Pv c w b/\w0.h.get? b=none) (he:IsEnum w.h e it 0 .none) (hst:St 0 w.h) (hl:l.length=m) (fpF:∀b∈fp,b=it\/Al w.F b) (val:∀j v,j<m->P j v->∃x,l[j]? =some x/\CD c w.F x v):WP c [] A (pyIter (.ref e)) w (IP c true K w0):=by
 have W:=fun(A:Around) (hh:A.handled=none)=>WalksT.enumerateD (D A.in1 hh) e hei hef hif
 have fpF':∀b∈e::fp,b∈[e,it]\/Al w.F b:=fun b hb=>(List.mem_cons.mp hb).elim (fun q=>.inl (List.mem_cons.mpr (.inl q))) fun q=>(fpF b q).imp (fun q=>List.mem_cons_of_mem _ (List.mem_singleton.mpr q)) id
 have al:∀{h:Heap},Al h e->Al h it->∀b∈[e,it],Al h b:=fun h1 h2 b hb=>(List.mem_cons.mp hb).elim (fun q=>by rw[q];exact h1) fun q=>by rw[List.mem_singleton.mp q];exact h2
 refine .same (wpAny_pyIter_enum he ⟨rfl,rfl,rfl,e,[e,it],_,none,μ,rfl,S,hp,fun k l e=>(nomatch e),D4 rfl W (fun i h st=>al (st.1.elim fun o e=>⟨_,e⟩) ((D {} rfl).live _ _ st.2)) (fun i T h st=>al (st.1.elim fun o e=>⟨_,e⟩) ((D {} rfl).live _ _ st.2.1)) _ 0 w S.sub (fun b hb=>(hp b hb).1) ⟨⟨_,he⟩,hst⟩
  ((Nat.zero_add _).trans (by rw[TN,List.length_zipIdx,hl])) fpF' (fun j vs hj h=>?_),q,fun A w' L μ hh x2 hL S2=>wpAny_pyIter_enum (x2.jx (hp e (.head _)).1 (hL e (.head _)) he) ⟨rfl,rfl⟩⟩)
 obtain⟨t,x,hP,rfl⟩:=h
 rw[Nat.zero_add] at hj hP⊢
 obtain⟨y,hy,C⟩:=val j x hj hP
 exact⟨[.int (j:Int),y],by rw[List.getElem?_map,List.getElem?_zipIdx,hy,Nat.zero_add];rfl,_,_,rfl,⟨t,rfl⟩,_,_,rfl,C,rfl⟩
abbrev P2(c:Cx)(K:KI)(w0:Wd)(r:Value)(w1:Wd):Prop:=∀A,WP c [] A (pyIter r) w1 (IP c true K w0)
theorem PC(S:Sat c w μ)(x:Step c [] w0 w){h':Heap}(hz:h'.objs.size=w.h.objs.size+2)(hk:∀b o,w.h.get? b=some o->h'.get? b=some o){o:Obj}(he:h'.get? (w.h.objs.size+1)=some o)(hi:Al h' w.h.objs.size):
  Step c [] w ⟨w.F,w.a,{w.s with heap:=h'}⟩/\Sat c ⟨w.F,w.a,{w.s with heap:=h'}⟩ μ/\∀b∈[w.h.objs.size+1,w.h.objs.size],Pv c ⟨w.F,w.a,{w.s with heap:=h'}⟩ b/\w0.h.get? b=none:=by
 have nn:∀{b},w.h.get? b=none->w0.h.get? b=none:=fun q=>Option.eq_none_iff_forall_ne_some.mpr fun o e=>(x.live _ ⟨o,e⟩ nofun).ne q
 refine⟨Step.keeps (s:={w.s with heap:=h'}) rfl rfl hk,S.keep (s:={w.s with heap:=h'}) hk,fun b hb=>(List.mem_cons.mp hb).elim (fun q=>?_) fun q=>?_⟩
 ·rw[q];exact⟨gu (s:={w.s with heap:=h'}) S hk (fh (Nat.le_succ _)) ⟨_,he⟩,nn (fh (Nat.le_succ _))⟩
 ·rw[List.mem_singleton.mp q];exact⟨gu (s:={w.s with heap:=h'}) S hk (cg _) hi,nn (cg _)⟩
theorem Nt{l:List Nat}(S:Sat c w μ)(x:Step c [] w0 w)(q:K ((l.map fun c=>D.str [c]).zipIdx.map fun p=>V.d (.tuple [.int (p.2:Int),p.1])) none μ):CD c w.F (.str l) u->WP c [] A (call (.type "enumerate") [u]) w (P2 c K w0):=by
 rintro⟨t,rfl⟩
 refine ij (call_enumerate_str fun h' he hi hz hk=>?_)
 have val:∀(j:Nat) (v:Value),j<(⟨l.toArray⟩:Str).cps.size->SignAt ⟨l.toArray⟩ j v->∃y,(l.map fun c=>D.str [c])[j]? =some y/\CD c w.F y v:=fun j v hj h=>qX h
 have hl:(l.map fun c=>D.str [c]).length=(⟨l.toArray⟩:Str).cps.size:=by rw[TN];rfl
 have ne:w.h.objs.size+1∉[w.h.objs.size]:=fun q=>Nat.succ_ne_self _ (List.mem_singleton.mp q)
 have E:=PC S x hz hk he (hi.imp fun o e=>e.1)
 unfold strIterType at hi
 split at hi
 ·exact⟨_,rfl,E.1,fun A=>wZ E.2.1 q (fun A hh=>Draws.strAscii hh _ ⟨l.toArray⟩ t) (Nat.succ_ne_self _) ne (.head _) E.2.2 he hi hl (fun b hb=>.inl (List.mem_singleton.mp hb)) val⟩
 ·exact⟨_,rfl,E.1,fun A=>wZ E.2.1 q (fun A hh=>Draws.strWide hh _ ⟨l.toArray⟩ t) (Nat.succ_ne_self _) ne (.head _) E.2.2 he hi hl (fun b hb=>.inl (List.mem_singleton.mp hb)) val⟩
theorem Mv{l:List D}(S:Sat c w μ)(x:Step c [] w0 w)(q:K (l.zipIdx.map fun p=>V.d (.tuple [.int (p.2:Int),p.1])) none μ)(C:CD c w.F (.tuple l) u):WP c [] A (call (.type "enumerate") [u]) w (P2 c K w0):=by
 obtain⟨a,vs,rfl,ht,d⟩:=cp.mp C
 have ha:Al w.F a:=ht.imp fun o h=>h.1
 have ht':w.h.IsTuple a vs.toArray:=ht.keeps S.sub
 have hlt:a<w.h.objs.size:=(Le.al S.sub ha).elim fun o e=>Heap.lt_size e
 refine ij (pb ht' fun h' he hi hz hk=>?_)
 have E:=PC S x hz hk he (hi.imp fun o e=>e.1)
 exact⟨_,rfl,E.1,fun A=>wZ E.2.1 q (fun A hh=>yO hh _ a (Nat.ne_of_lt hlt) vs.toArray) (Nat.succ_ne_self _) (fun q=>(List.mem_cons.mp q).elim (Nat.succ_ne_self _) fun q=>Nat.ne_of_gt (Nat.lt_succ_of_lt hlt) (List.mem_singleton.mp q)) (.head _) E.2.2 he ⟨hi,ht'.imp fun o e=>⟨hk _ _ e.1,e.2⟩⟩ (d.len.trans (List.size_toArray ..).symm) (Bl ha) fun j v hj e=>Bd d e⟩
theorem vd(S:Sat c w μ)(x:Step c [] w0 w)(h:P' K v μ):CV c w.F w.a v u->WP c [] A (call (.type "enumerate") [u]) w (P2 c K w0):=
 aB v (fun d h=>cJ d TO (fun x=>TO) (fun x=>TO) (fun l q=>Nt S x q) (fun x=>TO) (fun l q=>Mv S x q) (fun x=>TO) (fun x=>TO) h) h
end
end
section
@[elab_as_elim]theorem xE{α:Type}{k:α->Bool}{P:List α->Prop}(l:List α)(f:∀a,k a=true->P [a])(h:o1 l k=true):P l:=by
 revert h
 match l with
 |[]=>exact nf
 |[a]=>exact f a
 |a::b::l=>exact nf
@[elab_as_elim]theorem tW{α:Type}{k:α->α->Bool}{P:List α->Prop}(l:List α)(f:∀a b,k a b=true->P [a,b])(h:o2 l k=true):P l:=by
 revert h
 match l with
 |[]=>exact nf
 |[a]=>exact nf
 |[a,b]=>exact f a b
 |a::b::d::l=>exact nf
@[elab_as_elim]theorem Ln{α:Type}{k:α->Bool}{P:Option α->Prop}(l:Option α)(f:∀a,k a=true->P (some a))(h:oS l k=true):P l:=by
 revert h
 cases l with
 |none=>exact nf
 |some a=>exact f a
theorem a2{a b:Bool}(h:(a&&b)=true):a=true/\b=true:=Bool.and_eq_true_iff.mp h
theorem a3{a b d:Bool}(h:(a&&b&&d)=true):a=true/\b=true/\d=true:=⟨(a2 (a2 h).1).1,(a2 (a2 h).1).2,(a2 h).2⟩
theorem a4{a b d e:Bool}(h:(a&&b&&d&&e)=true):a=true/\b=true/\d=true/\e=true:=⟨(a3 (a2 h).1).1,(a3 (a2 h).1).2.1,(a3 (a2 h).1).2.2,(a2 h).2⟩
theorem uI{e:Expr}{es:List Expr}{env:Env}(h:xc e=true):starEach (e::es) env=(false,eval e env)::starEach es env:=by
 cases e with
 |Starred a p=>exact nf h
 |_=>rfl
theorem lC{e:Expr}{op:CmpOp}(h:xc e=true):behindInMarks op e=false:=by
 cases e with
 |Starred a p=>exact nf h
 |Set a n p=>exact nf h
 |_=>rfl
theorem DJ{e:Expr}(h:xc e=true)(env:Env)(u:Value):foldedSetIterable e env u=pure u:=by
 cases e with
 |Set a n p=>exact nf h
 |_=>rfl
section
variable{c:Cx}
def PF(c:Cx)(n:Nat)(b:Bk)(K:KF)(w:Wd):Prop:=∃fr μ,fk c n b fr w μ/\K fr μ
structure SE(c:Cx)(n:Nat)(x:Ex):Prop where
 v:∀e b fr w μ K,cE c.g x b.ct e=true->fk c n b fr w μ->eE n x fr μ K->WP c [] b.A (eval e b.env) w (PK c K)
 t:JB x=true->∀e b fr w μ K,cE c.g x b.ct e=true->fk c n b fr w μ->eE n x fr μ (Sh K)->WP c [] b.A (isTrue e b.env (eval e b.env)) w (PB c K)
 u:Jn x=true->∀e b fr w μ K U KF,cE c.g x b.ct e=true->fk c n b fr w μ->eE n x fr μ K->(∀u w' v μ',fk c n b fr w' μ'->CV c w'.F w'.a v u->K v μ'->WP c [b.env.locals] b.A (U u) w' (fun d=>PF c n b KF))->WP c [b.env.locals] b.A (evalThenUse e b.env U) w (fun d=>PF c n b KF)
def SO(c:Cx)(n:Nat)(x:Option Ex):Prop:=∀e b fr w μ K,cO c.g x b.ct e=true->fk c n b fr w μ->eO n x fr μ K->WP c [] b.A (valueOrNone (evalOpt e b.env)) w (fun u w'=>∃o μ',IsPart u o/\Sat c w' μ'/\K o μ')
def SL(c:Cx)(n:Nat)(xs:List Ex):Prop:=(∀es b fr w μ K pos,Dz c.g xs b.ct es=true->fk c n b fr w μ->eL n xs fr μ K->WP c [] b.A (spliced (backTo pos (starEach es b.env))) w (R9 c K))/\
 ∀k es b fr w μ K pos,Dz c.g xs b.ct es=true->fk c n b fr w μ->eB n k xs fr μ K->WP c [] b.A (boolOp pos (yL k) (evalEach es b.env)) w (PK c K)
def ST(c:Cx)(n:Nat)(t:Ts):Prop:=∀e b fr w μ K,cT c.g t b.ct e=true->fk c n b fr w μ->eT n t fr μ K->WP c [] b.A (isTrue e b.env (eval e b.env)) w (PB c K)
def LD(c:Cx)(n:Nat)(ts:List Ts):Prop:=∀k es b fr w μ K,LF c.g ts b.ct es=true->fk c n b fr w μ->Q9 n k ts fr μ K->WP c [] b.A (allTrue (yL k) es b.env) w (PB c K)
def SI(c:Cx)(n:Nat)(i:It):Prop:=∀e b fr w μ K tt,cI c.g i b.ct e=true->(jo i=true->tt=true)->fk c n b fr w μ->eI n i fr μ K->WP c [] b.A (eval e b.env) w (fun u w1=>(∀env',foldedSetIterable e env' u=pure u)/\WP c [] b.A (pyIter u) w1 (IP c tt K w))
variable{n:Nat}{b:Bk}{fr:Fr}{w:Wd}{μ:Mu}{K:KV}
theorem SE.of{x:Ex}(h:JB x=false)(h':Jn x=false)(k:∀e b fr w μ K,cE c.g x b.ct e=true->fk c n b fr w μ->eE n x fr μ K->WP c [] b.A (eval e b.env) w (PK c K)):SE c n x:=⟨k,fun q=>Bool.noConfusion (h.symm.trans q),fun q=>Bool.noConfusion (h'.symm.trans q)⟩
theorem xF{x y:Str}(h:x≠y):(x==y)=false:=beq_eq_false_iff_ne.mpr h
theorem xU{cc:Const}{k:Nat}{p:Pos}{env:Env}{A:Around}(S:Sat c w μ):∀x,cK cc x=true->K (.d x) μ->WP c [] A (eval (.Constant cc k p) env) w (PK c K):=by
 cases cc with
 |none=>exact jR (P:=fun x=>K (.d x) μ->WP c [] A (eval (.Constant _ k p) env) w (PK c K)) (fun h q=>WP.val S q (wpAny_pure ⟨rfl,rfl,rfl,rfl⟩)) (fun a=>nf) (fun a=>nf) (fun a=>nf) (fun a=>nf) (fun a=>nf)
 |bool b=>exact jR (P:=fun x=>K (.d x) μ->WP c [] A (eval (.Constant _ k p) env) w (PK c K)) nf (fun a h q=>eq_of_beq h▸WP.val S q (wpAny_pure ⟨rfl,rfl,rfl,rfl⟩)) (fun a=>nf) (fun a=>nf) (fun a=>nf) (fun a=>nf)
 |int b=>exact jR (P:=fun x=>K (.d x) μ->WP c [] A (eval (.Constant _ k p) env) w (PK c K)) nf (fun a=>nf) (fun a h q=>eq_of_beq h▸WP.val S q (fun Γ p h=>⟨rfl,rfl,rfl,_,rfl⟩)) (fun a=>nf) (fun a=>nf) (fun a=>nf)
 |str b=>exact jR (P:=fun x=>K (.d x) μ->WP c [] A (eval (.Constant _ k p) env) w (PK c K)) nf (fun a=>nf) (fun a=>nf) (fun a h q=>WP.val (v:=.str a) S q (fun Γ p h'=>⟨rfl,rfl,rfl,w.s.toks,congrArg (Value.str · w.s.toks) (congrArg (fun l=>Str.mk (List.toArray l)) (eq_of_beq h))⟩)) (fun a=>nf) (fun a=>nf)
 |bytes b=>exact jR (P:=fun x=>K (.d x) μ->WP c [] A (eval (.Constant _ k p) env) w (PK c K)) nf (fun a=>nf) (fun a=>nf) (fun a=>nf) (fun a h q=>eq_of_beq h▸WP.val S q (fun Γ p h=>⟨rfl,rfl,rfl,_,rfl⟩)) (fun a=>nf)
 |_=>exact fun x=>nf
theorem J9(S:Sat c w μ){u:Value}{v:V}(x:CV c c.hB [] v u):CV c w.F w.a v u:=CV.mono S.base (fun i p e=>cF (List.getElem?_nil.symm.trans e)) v u x
theorem MR(G:Good c){x:Str}{v:V}{p:Pos}(hg:b.ct.ro.contains x=true)(hv:c.g.name x v=true)(X:fk c n b fr w μ)(q:K v μ):WP c [] b.A (eval (.Name x p) b.env) w (PK c K):=by
 obtain⟨pp,loose,mean,mg,mb,T⟩:=G.top
 have hk:=X.t.base.trans X.t.sub
 refine .val X.t q (Name_function_global X.s.kind (X.s.kg x hg) ?_ (xF (X.s.nb x (.inr (.inr hg))).1))
 rcases G.name x v hv with⟨u,e,cv⟩|⟨b',e,eb,rfl,hne⟩
 ·exact loadGlobal_global (env:=b.env) (by rw[X.s.glob];exact T.g.keeps hk) (mg_of G.KX T.g e) ⟨rfl,rfl,rfl,J9 X.t cv⟩
 ·exact loadGlobal_builtin (env:=b.env) (by rw[X.s.glob];exact T.g.keeps hk) (mg_none_of G.KX T.g e) (by rw[X.s.NZ];exact T.b.keeps hk) ((T.builtins x hne).trans eb) ⟨rfl,rfl,rfl,rfl⟩
theorem qg(G:Good c)(v:V):SE c n (.const v):=.of rfl rfl fun e b fr w μ K hc X q=>(Bool.or_eq_true_iff.mp hc).elim
 (fun hc=>tU e (fun cc k p h=>by cases v with|d x=>exact xU X.t x h q|_=>exact nf h) hc) fun hc=>dH e (fun x p h=>MR G (a2 h).1 (a2 h).2 X q) hc
theorem Jl(i:Nat):SE c n (.lv i):=.of rfl rfl fun e b fr w μ K hc X q=>dH e (fun x p h=>by
 obtain⟨v,e1,q⟩:=BU q
 have e2:=eq_of_beq h
 obtain⟨m,hn,hv⟩:=X.d.ns
 obtain⟨u,e3,C⟩:=hv i x v e2 e1
 have hx:=List.mem_of_getElem? e2
 exact .val X.t q (wpAny_Name (wpAny_loadName_local X.s.kind (X.s.kl x hx) hn e3 ⟨rfl,rfl,rfl,C⟩) (xF (X.s.nb x (.inl hx)).1))) hc
theorem JW(i:Nat):SE c n (.cv i):=.of rfl rfl fun e b fr w μ K hc X q=>dH e (fun x p h=>by
 obtain⟨k,e1,m,e2,q⟩:=BE q
 have e3:=eq_of_beq h
 have hx:=List.mem_of_getElem? e3
 obtain⟨k',e4,b',e5,e6⟩:=X.d.cells.get e3
 cases e1.symm.trans e4
 have M:=X.t.mo k _ m e5 e2
 revert M
 refine lY m (fun l=>TO) (fun l=>TO) (fun l=>TO) (fun d j=>TO) (fun o q M=>?_) q
 obtain⟨v,rfl,q⟩:=iC q
 obtain⟨e,o,hcell,hu⟩:=M
 obtain⟨u,rfl,C⟩:=hu v rfl
 refine .val X.t q (wpAny_Name ?_ (xF (X.s.nb x (.inr (.inl hx))).1))
 rcases X.s.kc x hx with z|z
 ·exact wpAny_loadName_cell X.s.kind z e6 hcell ⟨rfl,rfl,rfl,C⟩
 ·exact wpAny_loadName_free X.s.kind z e6 hcell ⟨rfl,rfl,rfl,C⟩ (xF (X.s.nb x (.inr (.inl hx))).2)) hc
theorem gb{β:Type}{l r:Ex}{le re:Expr}{f:Value->Value->Sem β}{pos:Pos}{K2:V->KV}{Q:β->Wd->Prop}(ihl:SE c n l)(ihr:SE c n r)(cl:cE c.g l b.ct le=true)(cr:cE c.g r b.ct re=true)(X:fk c n b fr w μ)
  (h:eE n l fr μ fun a μ=>eE n r fr μ (K2 a)) (k:∀u u' w' x y μ',fk c n b fr w' μ'->CV c w'.F w'.a x u->CV c w'.F w'.a y u'->K2 x y μ'->WP c [] b.A (f u u') w' Q):WP c [] b.A (do let u<-eval le b.env;let u'<-holding [u] (eval re b.env);standAt pos;f u u') w Q:=
 .bE X (ihl.v le b fr w μ _ cl X h) fun u w1 x μ1 st X1 C1 h=>.bE X1 (.hold (ihr.v re b fr w1 μ1 _ cr X1 h)) fun u' w2 y μ2 st2 X2 C2 q=>.bQ (k u u' w2 x y μ2 X2 (st2.cv C1) C2 q)
theorem By(o:Op)(l r:Ex)(ihl:SE c n l)(ihr:SE c n r):SE c n (.bin o l r):=.of rfl rfl fun e b fr w μ K hc X q=>Lc e (fun le p re pos h=>by
 obtain⟨h1,h2,h3⟩:=a3 h
 cases eq_of_beq h1
 rw[eval_BinOp]
 exact gb (f:=fun a b=>operate [a,b] (binaryOp (Rp o) a b)) ihl ihr h2 h3 X q fun u u' w' x y μ' X' C1 C2 q=>.operate (aB x (fun x q C1=>aB y (fun y q C2=>J5 X'.t q C1 C2) q C2) q C1)) hc
theorem B9(x:Ex)(ih:SE c n x):SE c n (.neg x):=.of rfl rfl fun e b fr w μ K hc X q=>Bg e (fun o y p h=>by
 obtain⟨h1,h2⟩:=a2 h
 cases eq_of_beq h1
 rw[arm_eval_UnaryOp]
 exact .bE X (ih.v y b fr w μ _ h2 X q) fun u w1 v μ1 st X1 C1 q=>.bQ (.hold (aB v (fun d q=>bC d (fun i q C=>C.elim fun t e=>e▸.val X1.t q (neg_int ⟨rfl,rfl,rfl,_,rfl⟩)) q) q C1))) hc
theorem WP.Gb{β:Type}{L:List Addr}{A:Around}{vs ks:List Value}{f:Unit->Sem β}{Q:β->Wd->Prop}(h:WP c L A (f ()) w Q):WP c L A (PySem.release vs ks>>=f) w Q:=aj (sy h)
theorem WP.Ck{β:Type}{L:List Addr}{A:Around}{q:Bool}{vs:List Value}{f:Bool->Sem β}{Q:β->Wd->Prop}(h:WP c L A (f q) w Q):WP c L A (holding vs (PySem.truthy (.bool q))>>=f) w Q:=aj (bj (ij (wpAny_truthy_bool h)))
theorem Lm{A:Around}{t:Sem Value}(h:WP c [] A t w (CB c μ (lV μ K))):WP c [] A t w (PK c K):=h.mono fun r w' x q=>q.elim fun q h=>h.1▸.of (v:=.bool q) h.2.1 rfl h.2.2
theorem kr(X:fk c n b fr w μ):b.A.units<9800:=Nat.lt_of_le_of_lt (Nat.le_add_right _ _) X.s.units
theorem wx{o:Co}{x y:V}{u u':Value}{A:Around}(S:Sat c w μ)(hu:A.units<9800)(q:JR o K x y μ)(C1:CV c w.F w.a x u)(C2:CV c w.F w.a y u'):WP c [] A (compareOp (LV o) u u') w (CB c μ (lV μ K)):=
 aB x (fun x q C1=>aB y (fun y q C2=>BN S hu q C1 C2) q C2) q C1
theorem Bw(l:Ex)(o:Co)(r:Ex)(ihl:SE c n l)(ihr:SE c n r):SE c n (.cmp l o r):=by
 refine⟨fun e b fr w μ K hc X q=>qc e (fun le p re pos h=>xE p (fun p h=>xE re (fun re h=>?_) h) h) hc,fun z e b fr w μ K hc X q=>qc e (fun le p re pos h=>xE p (fun p h=>xE re (fun re h=>?_) h) h) hc,nf⟩
 ·obtain⟨h1,h2,h3,h4⟩:=a4 h
  cases eq_of_beq h1
  rw[eval_Compare1,markedBehindIn_of_false (lC h4)]
  exact gb (f:=fun a b=>operate [a,b] (compareOp (LV o) a b)) ihl ihr h2 h3 X q fun u u' w' x y μ' X' C1 C2 q=>.operate (Lm (wx X'.t (kr X') q C1 C2))
 ·obtain⟨h1,h2,h3,h4⟩:=a4 h
  cases eq_of_beq h1
  rw[isTrue_Compare1,markedBehindIn_of_false (lC h4)]
  refine gb (f:=fun a b=>do let cc<-operate [a,b] (compareOp (LV o) a b);holding [cc] (truthy cc)) ihl ihr h2 h3 X q fun u u' w' x y μ' X' C1 C2 q=>.bind (.operate (wx X'.t (kr X') q C1 C2)) fun cc w2 st q=>?_
  obtain⟨v,rfl,S2,q⟩:=q
  exact .hold (.truthy ⟨μ',S2,q⟩)
theorem sW(l:Expr)(op op':CmpOp)(r r':Expr)(pos:Pos)(env:Env)(h1:behindInMarks op' r'=false):eval (.Compare l [op,op'] [r,r'] pos) env=
  (do let a<-eval l env;let b<-holding [a] (eval r env);standAt pos;(do
     let cc<-holding [a,b] (compareOp op a b)
     release [a,b] [cc]
     if<-holding [cc,b] (truthy cc)then(do let rv<-holding [b] (eval r' env);standAt pos;operate [b,rv] (compareOp op' b rv))else pure cc)):=by
 show(eval l env>>=fun a=>compareChain pos a [op,op'] [eval r env,markedBehindIn op' r' (eval r' env)])=_
 rw[markedBehindIn_of_false h1]
 rfl
theorem pS(l:Expr)(op op':CmpOp)(r r':Expr)(pos:Pos)(env:Env)(whole:Sem Value)(h1:behindInMarks op' r'=false):isTrue (.Compare l [op,op'] [r,r'] pos) env whole=
  (do let a<-eval l env;let b<-holding [a] (eval r env);standAt pos;(do
     let cc<-holding [a,b] (compareOp op a b)
     release [a,b] [cc]
     if<-holding [cc,b] (truthy cc)then(do let rv<-holding [b] (eval r' env);standAt pos;let cc<-operate [b,rv] (compareOp op' b rv);holding [cc] (truthy cc))else pure false)):=by
 show(eval l env>>=fun a=>testChain pos a [op,op'] [eval r env,markedBehindIn op' r' (eval r' env)])=_
 rw[markedBehindIn_of_false h1]
 rfl
theorem BV{β:Type}{r':Ex}{o o':Co}{x y:V}{u u':Value}{T:Sem β}{E:Value->Sem β}{Q:β->Wd->Prop}(X:fk c n b fr w μ)(q:OO (eE n r' fr) o o' K x y μ)(C1:CV c w.F w.a x u)(C2:CV c w.F w.a y u')
  (hT:∀w',Step c [] w w'->fk c n b fr w' μ->eE n r' fr μ (JR o' K y)->WP c [] b.A T w' Q) (hE:∀w',Sat c w' μ->K (.bool false) μ->WP c [] b.A (E (.bool false)) w' Q):
  WP c [] b.A (do let cc<-holding [u,u'] (compareOp (LV o) u u');release [u,u'] [cc];if<-holding [cc,u'] (truthy cc)then T else E cc) w Q:=by
 refine aB (P:=fun x=>CV c w.F w.a x u->_) x (fun x' q C1=>aB (P:=fun y=>CV c w.F w.a y u'->_) y (fun y' q C2=>?_) q C2) q C1
 refine .bind (.hold (BN X.t (kr X) q C1 C2)) fun cc w2 st h=>?_
 obtain⟨v,rfl,S2,q⟩:=h
 refine .Gb (.Ck ?_)
 cases v with
 |true=>exact hT w2 st (X.step st S2) q
 |false=>exact hE w2 S2 q
theorem uZ(l:Ex)(o:Co)(r:Ex)(o':Co)(r':Ex)(ihl:SE c n l)(ihr:SE c n r)(ihr':SE c n r'):SE c n (.iX l o r o' r'):=by
 refine⟨fun e b fr w μ K hc X q=>qc e (fun le p re pos h=>tW p (fun p p' h=>tW re (fun re re' h=>?_) h) h) hc,fun z e b fr w μ K hc X q=>qc e (fun le p re pos h=>tW p (fun p p' h=>tW re (fun re re' h=>?_) h) h) hc,nf⟩
 ·obtain⟨⟨⟨⟨⟨h1,h2⟩,h3⟩,h4⟩,h5⟩,h6⟩:((((_/\_)/\_)/\_)/\_)/\_:=(a2 h).imp (fun h=>(a2 h).imp (fun h=>(a2 h).imp (fun h=>(a2 h).imp a2 id) id) id) id
  cases eq_of_beq h1
  cases eq_of_beq h2
  rw[sW _ _ _ _ _ _ _ (lC h6)]
  refine gb ihl ihr h3 h4 X q fun u u' w' x y μ' X' C1 C2 q=>BV (E:=fun cc=>pure cc) X' q C1 C2 (fun w2 st X2 q=>?_) fun w2 S2 q=>.pK (v:=.bool false) S2 rfl q
  exact .bE X2 (.hold (ihr'.v re' b fr w2 μ' _ h5 X2 q)) fun u3 w3 z μ3 st3 X3 C3 q=>.bQ (.operate (Lm (wx X3.t (kr X3) q (st3.cv (st.cv C2)) C3)))
 ·obtain⟨⟨⟨⟨⟨h1,h2⟩,h3⟩,h4⟩,h5⟩,h6⟩:((((_/\_)/\_)/\_)/\_)/\_:=(a2 h).imp (fun h=>(a2 h).imp (fun h=>(a2 h).imp (fun h=>(a2 h).imp a2 id) id) id) id
  cases eq_of_beq h1
  cases eq_of_beq h2
  rw[pS _ _ _ _ _ _ _ _ (lC h6)]
  refine gb ihl ihr h3 h4 X q fun u u' w' x y μ' X' C1 C2 q=>BV (E:=fun cc=>pure false) X' q C1 C2 (fun w2 st X2 q=>?_) fun w2 S2 q=>.pure ⟨μ',S2,q⟩
  refine .bE X2 (.hold (ihr'.v re' b fr w2 μ' _ h5 X2 q)) fun u3 w3 z μ3 st3 X3 C3 q=>.bQ (.bind (.operate (wx X3.t (kr X3) q (st3.cv (st.cv C2)) C3)) fun cc w4 st4 q=>?_)
  obtain⟨v,rfl,S4,q⟩:=q
  exact .hold (.truthy ⟨μ3,S4,q⟩)
theorem qp(k:Bool)(es:List Ex)(ih:SL c n es):SE c n (.gY k es):=.of rfl rfl fun e b fr w μ K hc X q=>yr e (fun o l p h=>by
 cases eq_of_beq (a2 h).1
 exact ih.2 k l b fr w μ K p (a2 h).2 X q) hc
theorem CA(t:Ts)(x y:Ex)(ih:ST c n t)(ihx:SE c n x)(ihy:SE c n y):SE c n (.aT t x y):=.of rfl rfl fun e b fr w μ K hc X q=>MG e (fun te xe ye p h=>by
 obtain⟨h1,h2,h3⟩:=a3 h
 show WP c [] b.A (do if<-isTrue te b.env (eval te b.env)then eval xe b.env else eval ye b.env) w _
 refine .bB X (ih te b fr w μ _ h1 X q) fun v w1 μ1 st X1 q=>?_
 cases v with
 |true=>exact ihx.v xe b fr w1 μ1 K h2 X1 q
 |false=>exact ihy.v ye b fr w1 μ1 K h3 X1 q) hc
theorem zG:SL c n []:=⟨fun es b fr w μ K pos hc X q=>List.isEmpty_iff.mp hc▸.same (wpAny_pure ⟨rfl,rfl,rfl,[],μ,X.t.keep Le.rfl,rfl,q⟩),fun k es b fr w μ K pos hc X q=>q.elim⟩
theorem qv(x:Ex)(xs:List Ex)(ih:SE c n x)(ihs:SL c n xs):SL c n (x::xs):=by
 refine⟨fun es b fr w μ K pos hc X q=>?_,fun k es b fr w μ K pos hc X q=>?_⟩
 ·cases es with
  |nil=>exact nf hc
  |cons e es=>
   obtain⟨h1,h2,h3⟩:=a3 hc
   rw[uI h2]
   show WP c [] b.A (spliced ((false,eval e b.env)::backTo pos (starEach es b.env))) w _
   rw[spliced]
   exact .bE X (ih.v e b fr w μ _ h1 X q) fun u w1 v μ1 st X1 C1 q=>.CC (.bL X1 (.hold (ihs.1 es b fr w1 μ1 _ pos h3 X1 q)) fun us w2 vs μ2 st2 X2 C2 q=>.pure ⟨v::vs,μ2,X2.t,⟨u,us,rfl,st2.cv C1,C2⟩,q⟩)
 ·cases es with
  |nil=>exact nf hc
  |cons e es=>
   obtain⟨h1,h2,h3⟩:=a3 hc
   cases xs with
   |nil=>cases List.isEmpty_iff.mp h3;exact ih.v e b fr w μ K h1 X q
   |cons y ys=>
    cases es with
    |nil=>exact nf h3
    |cons e' es=>
     show WP c [] b.A (do
      let v<-eval e b.env
      standAt pos
      let t<-holding [v] (truthy v)
      match yL k,t with
      |.And,false|.Or,true=>pure v
      |_,_=>boolOp pos (yL k) (evalEach (e'::es) b.env)) w _
     refine .bE X (ih.v e b fr w μ _ h1 X q) fun u w1 v μ1 st X1 C1 q=>?_
     refine aB (P:=fun v=>CV c w1.F w1.a v u->_) v (fun d q=>LR d (fun v q C1=>?_) q) q C1
     cases C1
     refine .bQ (.Ck ?_)
     cases k with
     |true=>cases v with
      |true=>exact ihs.2 true (e'::es) b fr w1 μ1 K pos h3 X1 q
      |false=>exact .pK (v:=.bool false) X1.t rfl q
     |false=>cases v with
      |true=>exact .pK (v:=.bool true) X1.t rfl q
      |false=>exact ihs.2 false (e'::es) b fr w1 μ1 K pos h3 X1 q
end
end
section
variable{c:Cx}{n:Nat}{b:Bk}{fr:Fr}{w:Wd}{μ:Mu}{K:KV}{A:Around}
theorem G8{F:Heap}{ads:lI}(l:List V):∀ds vs,DH l=some ds->fC c F ads l vs->jm c F ds vs:=by
 induction l with
 |nil=>exact fun ds vs e h=>Option.some.inj e▸h
 |cons v l ih=>
  intro ds vs e h
  obtain⟨u,us,rfl,h1,h2⟩:=h
  revert e h1
  cases v with
  |d x=>
   intro e h1
   obtain⟨r,e2,rfl⟩:=Option.map_eq_some_iff.mp e
   exact⟨u,us,rfl,h1,ih r us e2 h2⟩
  |_=>exact fun e=>cF e
theorem GJ{F:Heap}{ads:lI}{l:List V}{vs:List Value}{a:Addr}(ht:IsTup F a vs.toArray)(h:fC c F ads l vs):CV c F ads (HK l) (.ref a):=by
 unfold HK
 cases e:DH l with
 |some ds=>exact cp.mpr ⟨a,vs,rfl,ht,G8 l ds vs e h⟩
 |none=>exact hZ.mpr ⟨a,vs,rfl,ht,h⟩
theorem BL{k:Nat}(h:k<=1000):k<=sizeLine:=a0▸Ta h (by unfold lim;decide)
theorem qj(es:List Ex)(ih:SL c n es):SE c n (.tuple es):=.of rfl rfl fun e b fr w μ K hc X q=>je e (fun l k p h=>by
 show WP c [] b.A (do standAt p;newTuple (<-spliced (backTo p (starEach l b.env)))) w _
 refine .bQ (.bL X (ih.1 l b fr w μ _ p h X q) fun us w1 vs μ1 st X1 C1 q=>?_)
 obtain⟨F',e,st2,S'⟩:=j7 X1.t {cls:=.type "tuple",data:=.seq us.toArray} rfl
 exact ij (wpAny_newObj_type ⟨_,rfl,st2,.of S' (GJ ⟨_,e,rfl,0,rfl⟩ (st2.P5 C1)) q.2⟩ (show us.toArray.size<=sizeLine from(List.size_toArray.trans C1.len.symm)▸BL q.1))) hc
theorem yF{m:aI}{vs:List Value}(S:Sat c w μ)(q:w9 m μ K)(hm:∀F ads h a,Le w.F F->Pr w.a ads->h.PlainList a vs.toArray->MO c F ads h (a,a) m):∃w':Wd,w'.s={w.s with heap:=w.h.push {cls:=.type "list",data:=.seq vs.toArray}}/\Step c [] w w'/\PK c K (.ref w.h.objs.size) w':=
 have e:(w.h.push {cls:=.type "list",data:=.seq vs.toArray}).get? w.h.objs.size=some {cls:=.type "list",data:=.seq vs.toArray}:=Heap.get?_push_size _ rfl
 have k:=Le.push (h:=w.h) {cls:=.type "list",data:=.seq vs.toArray}
 have S2:=q9 (w:=⟨w.F,w.a,{w.s with heap:=w.h.push _}⟩) (p:=w.h.objs.size) (S.keep (s:={w.s with heap:=w.h.push _}) k) (gu (s:={w.s with heap:=w.h.push _}) S k (cg _) ⟨_,e⟩) ⟨_,e⟩ (hm _ _ _ _ .rfl (.app _) ⟨_,e⟩)
 ⟨⟨w.F,w.a++[(w.h.objs.size,w.h.objs.size)],{w.s with heap:=w.h.push {cls:=.type "list",data:=.seq vs.toArray}}⟩,rfl,(Step.keeps (s:={w.s with heap:=w.h.push _}) rfl rfl k).own (cg _),.of S2 S.loc (vw q)⟩
theorem NN{m:Bool}{l:List V}{us:List Value}(S:Sat c w μ)(C:fC c w.F w.a l us)(q:Se m K l μ):WP c [] A (newList us) w (PK c K):=by
 refine ij (wpAny_newObj_type (?_:∃w':Wd,w'.s={w.s with heap:=w.h.push {cls:=.type "list",data:=.seq us.toArray}}/\Step c [] w w'/\PK c K (.ref w.h.objs.size) w') (show us.toArray.size<=sizeLine from(List.size_toArray.trans C.len.symm)▸BL q.1))
 have q2:=q.2
 cases e:DH l with
 |some ds=>
  rw[e] at q2
  have d:=G8 l ds us e C
  cases m with
  |true=>exact yF S q2 fun F ads h a k ka hl=>⟨rfl,us,hl,d.mono k⟩
  |false=>exact iF S d q2
 |none=>
  rw[e] at q2
  cases m with
  |true=>exact yF S q2 fun F ads h a k ka hl=>⟨rfl,us,hl,C.mono k ka⟩
  |false=>exact q2.elim
theorem vk(m:Bool)(es:List Ex)(ih:SL c n es):SE c n (.list m es):=.of rfl rfl fun e b fr w μ K hc X q=>GL e (fun l p h=>by
 show WP c [] b.A (do standAt p;newList (<-spliced (backTo p (starEach l b.env)))) w _
 exact .bQ (.bL X (ih.1 l b fr w μ _ p h X q) fun us w1 vs μ1 st X1 C1 q=>NN X1.t C1 q)) hc
theorem Cw{e:Expr}(h:Rh e=true)(a:Str)(env:Env)(t:Sem Value):attributeBase e a env t=t:=by
 cases e with
 |Call f l ks p=>cases f with
  |Name x q=>cases l with
   |nil=>exact nf h
   |cons a l=>rfl
  |_=>rfl
 |_=>rfl
theorem WP.m9{β:Type}{L:List Addr}{b:Expr}{o r:Value}{f:Unit->Sem β}{Q:β->Wd->Prop}(h:WP c L A (f ()) w Q):WP c L A (letTemporaryGo b o r>>=f) w Q:=bw (wpAny_letTemporaryGo h)
theorem Gy(x:Int×Nat×Tok×Tok)(l:List Nat):getL (Str.ofString "text") [⟨x.1,.str (Str.ofString "text") x.2.2.1,.str ⟨l.toArray⟩ x.2.2.2⟩]=some (some (.str ⟨l.toArray⟩ x.2.2.2)):=by
 unfold getL;simp[List.find?,Value.isStr]
theorem rE:(Str.ofString "data"==Str.ofString "at")=false:=by decide
theorem GP{h1 h2:Int}{t1 t3:Tok}{a v:Value}:getL (Str.ofString "data") [⟨h1,.str (Str.ofString "data") t1,a⟩,⟨h2,.str (Str.ofString "at") t3,v⟩]=some (some a):=by
 unfold getL;simp[List.find?,Value.isStr]
theorem GY{h1 h2:Int}{t1 t3:Tok}{a v:Value}:getL (Str.ofString "at") [⟨h1,.str (Str.ofString "data") t1,a⟩,⟨h2,.str (Str.ofString "at") t3,v⟩]=some (some v):=by
 unfold getL;simp[List.find?,Value.isStr,rE]
theorem Fo{h1 h2 hh:Int}{t1 t3:Tok}{a v' key v:Value}:putL (Str.ofString "at") hh key v [⟨h1,.str (Str.ofString "data") t1,a⟩,⟨h2,.str (Str.ofString "at") t3,v'⟩]=[⟨h1,.str (Str.ofString "data") t1,a⟩,⟨h2,.str (Str.ofString "at") t3,v⟩]:=by
 simp[putL,Value.isStr,rE]
theorem ud(G:Good c)(S:Sat c w μ):c.K.In w.h:=fun b o e=>S.sub _ _ (S.base _ _ (G.KX b o e))
theorem qs{h:Heap}{x C dx:Addr}{od:Obj}(h1:h.get? x=some (instObj C dx))(h2:h.get? dx=some od):PySem.W.InstAt h x (instObj C dx) C (some od):=⟨h1,rfl,rfl,h2⟩
theorem qy(G:Good c){a C dx:Addr}{es:List DictEntry}{k:Nat}{x:Str}{v:V}{u:Value}(S:Sat c w μ)(O:qz c.K C)(T:jA c.K C x)(h1:w.h.get? a=some (instObj C dx))(h2:w.h.get? dx=some (W.dictOf es k))(hl:getL x es=some (some u))(hv:handedIn u=true)(Cu:CV c w.F w.a v u)(q:K v μ):WP c [] A (getAttr (.ref a) x true) w (PK c K):=
 .val S q (get_value (ud G S) (qs h1 h2) O.ga (findObj_own O.hd T.find rfl hl) hv ⟨rfl,rfl,rfl,Cu⟩)
theorem MN{k:Nat}{u:Value}{P:List UInt8->Int->Prop}(S:Sat c w μ)(h:iy μ k (mW P))(C:CV c w.F w.a (.loc k) u):∃d i a x,μ[k]? =some (.wire d i)/\u=.ref a/\(∃o,w.a[k]? =some (a,o)/\w.h.get? a=some (instObj c.wC o)/\w.h.get? o=some (wk x d i))/\P d i:=by
 obtain⟨m,p,e1,e2,rfl,M,q⟩:=tT S h C
 revert e1 M
 exact lY m (fun l=>TO) (fun l=>TO) (fun l=>TO) (fun d j q e1 M=>M.2.elim fun x M2=>⟨d,j,p.1,x,e1,rfl,⟨p.2,e2,S.sub _ _ M.1,M2⟩,q⟩) (fun l=>TO) q
theorem M3(G:Good c){a:At}{v:V}{u:Value}(S:Sat c w μ)(q:Su a K v μ):CV c w.F w.a v u->WP c [] A (getAttr u (Rx a) true) w (PK c K):=by
 cases a with
 |text=>exact aB v (fun d q=>cJ d TO (fun x=>TO) (fun x=>TO) (fun x=>TO) (fun x=>TO) (fun x=>TO) (fun x=>TO) (fun l q C=>by
   obtain⟨a,rfl,dx,x,h1,h2⟩:=C
   exact qy G (v:=.str l) S G.atom G.at_ (S.sub _ _ h1) (S.sub _ _ h2) (Gy x l) rfl ⟨_,rfl⟩ q) q) q
 |data=>exact iR v (fun k q C=>by
   obtain⟨d,i,a,x,e,rfl,⟨o,e2,h1,h2⟩,q⟩:=MN S q C
   exact qy G (v:=.bytes d) S G.wire G.wd h1 h2 GP rfl ⟨_,rfl⟩ q) q
 | «at» =>exact iR v (fun k q C=>by
   obtain⟨d,i,a,x,e,rfl,⟨o,e2,h1,h2⟩,q⟩:=MN S q C
   exact qy G (v:=.int i) S G.wire G.wa h1 h2 GY rfl ⟨_,rfl⟩ q) q
theorem vK(G:Good c)(x:Ex)(a:At)(ih:SE c n x):SE c n (.attr x a):=.of rfl rfl fun e b fr w μ K hc X q=>rP e (fun ve y p h=>by
 obtain⟨h1,h2,h3⟩:=a3 h
 cases eq_of_beq h1
 rw[arm_eval_Attribute,Cw h3]
 exact .bE X (ih.v ve b fr w μ _ h2 X q) fun u w1 v μ1 st X1 C1 q=>.bQ (.bind (.hold (M3 G X1.t q C1)) fun r w2 st2 q=>.m9 (.pure q))) hc
theorem WP.Hy{β:Type}{L:List Addr}{u:Value}{f:Bool->Sem β}{Q:β->Wd->Prop}(h:Typed w.s u)(q:WP c L A (f false) w Q):WP c L A (getitemInPython u>>=f) w Q:=by
 obtain⟨T,id,hT,hl⟩:=h
 refine bw ?_
 rw[getitemInPython_of_ne hT.not_modules]
 exact wpAny_bind (wpAny_specialOf hT hl (wpAny_pure q))
theorem ry{g:Gt}{i:Ex}{ct:Ct}{sl:Expr}(h:cE g i ct sl=true)(o u:Value):subscripted sl false o u=operate [o,u] (getItem o u):=by
 cases sl with
 |Slice a b d p=>cases i<;>exact nf h
 |_=>rfl
theorem BM(x i:Ex)(ih:SE c n x)(ihi:SE c n i):SE c n (.sub x i):=.of rfl rfl fun e b fr w μ K hc X q=>p7 e (fun ve ie p h=>by
 obtain⟨h1,h2⟩:=a2 h
 rw[eval_Subscript]
 refine gb (f:=fun o i=>do let r<-subscripted ie (<-getitemInPython o) o i;letTemporaryGo ve o r;pure r) ih ihi h1 h2 X q fun u u' w' v z μ' X' C1 C2 q=>?_
 refine aB (P:=fun z=>CV c w'.F w'.a z u'->_) z (fun z q=>bC z (fun i q C2=>?_) q) q C2
 obtain⟨t,rfl⟩:=C2
 have g:=La (A:=b.A) (t':=t) X'.t q C1
 refine .Hy g.1 ?_
 rw[ry h2]
 exact .bind (.operate g.2) fun r w2 st2 q=>.m9 (.pure q)) hc
theorem t8(lower upper step:Option Expr)(p:Pos)(env:Env):eval (.Slice lower upper step p) env=(do
  let l<-valueOrNone (evalOpt lower env)
  let u<-holding [l] (valueOrNone (evalOpt upper env))
  let s<-holding [l,u] (valueOrNone (evalOpt step env))
  newFields "slice" [l,u,s]):=rfl
theorem mM(a b:Option Expr)(q:Pos)(t:Bool)(o i:Value):subscripted (.Slice a b none q) t o i=operate [i,o] (getItem o i):=by
 cases t<;>rfl
theorem vZ:SO c n none:=fun e b fr w μ K hc X q=>Option.isNone_iff_eq_none.mp hc▸.pure ⟨none,μ,.none,X.t,q⟩
theorem vE(x:Ex)(ih:SE c n x):SO c n (some x):=fun e b fr w μ K hc X q=>Ln e (fun e h=>(ih.v e b fr w μ _ h X q).mono fun u w1 st q=>by
 obtain⟨v,μ1,S1,C1,q⟩:=q
 obtain⟨o,e,q⟩:=iC q
 refine⟨o,μ1,?_,S1,q⟩
 revert e C1
 cases v with
 |d x=>cases x with
  |none=>exact fun C e=>Option.some.inj e▸C▸.none
  |int i=>exact fun C e=>Option.some.inj e▸C.elim fun t C=>C▸.int i t
  |_=>exact fun C e=>cF e
 |_=>exact fun C e=>cF e) hc
theorem sj(S:Sat c w μ)(vl vu vs:Value):∃F',Step c [] w ⟨F',w.a,{w.s with heap:=w.h.push {cls:=.type "slice",data:=.fields #[vl,vu,vs]}}⟩/\Sat c ⟨F',w.a,{w.s with heap:=w.h.push {cls:=.type "slice",data:=.fields #[vl,vu,vs]}}⟩ μ/\(w.h.push {cls:=.type "slice",data:=.fields #[vl,vu,vs]}).IsSliceOf w.h.objs.size vl vu vs:=
 (j7 S {cls:=.type "slice",data:=.fields #[vl,vu,vs]} rfl).imp fun F' h=>⟨h.2.1,h.2.2,⟨_,Heap.get?_push_size _ rfl,rfl,rfl⟩⟩
theorem WP.R1{α β:Type}{L:List Addr}{vs:List Value}{a:α}{f:α->Sem β}{Q:β->Wd->Prop}(h:WP c L A (f a) w Q):WP c L A (holding vs (Pure.pure a)>>=f) w Q:=aj (bj (aH h))
theorem Fv{vl vu vs:Value}{Q:Value->Wd->Prop}(h:∃w',w'.s={w.s with heap:=w.h.push {cls:=.type "slice",data:=.fields #[vl,vu,vs]}}/\Step c [] w w'/\Q (.ref w.h.objs.size) w'):WP c [] A (newFields "slice" [vl,vu,vs]) w Q:=ij (wpAny_newObj_type h)
theorem qi(x:Ex)(lo hi:Option Ex)(ih:SE c n x)(ihl:SO c n lo)(ihh:SO c n hi):SE c n (.slice x lo hi):=.of rfl rfl fun e b fr w μ K hc X q=>p7 e (fun ve se p h=>B5 se (fun le ue de p' h=>by
 obtain⟨h1,h2,h3,h4⟩:=a4 h
 cases Option.isNone_iff_eq_none.mp h1
 rw[eval_Subscript]
 refine .bE X (ih.v ve b fr w μ _ h2 X q) fun u w1 v μ1 st1 X1 C1 q=>?_
 rw[t8]
 refine .fO (P:=fun r w5=>∃sl vl vu lo hi μ',r=.ref sl/\Sat c w5 μ'/\IsPart vl lo/\IsPart vu hi/\w5.h.IsSliceOf sl vl vu .none/\OE v lo K hi μ') (.hold (.fO (ihl le b fr w1 μ1 _ h3 X1 q) fun vl w2 st2 q=>?_)) fun r w5 st5 q=>?_
 ·obtain⟨lo',μ2,p1,S2,q⟩:=q
  refine .fO (.hold (ihh ue b fr w2 μ2 _ h4 (X1.step st2 S2) q)) fun vu w3 st3 q=>?_
  obtain⟨hi',μ3,p2,S3,q⟩:=q
  obtain⟨F4,st4,S4,hs⟩:=sj S3 vl vu .none
  exact .R1 (Fv ⟨_,rfl,st4,_,vl,vu,lo',hi',μ3,rfl,S4,p1,p2,hs,q⟩)
 ·obtain⟨sl,vl,vu,lo',hi',μ',rfl,S5,p1,p2,hs,q⟩:=q
  have C5:=st5.cv C1
  refine .bQ ?_
  revert C5
  refine aB (P:=fun v=>CV c w5.F w5.a v u->_) v (fun d q C5=>?_) q
  have g:=JF (A:=b.A) S5 p1 p2 hs q C5
  refine .Hy g.1 ?_
  rw[mM]
  exact .bind (.operate g.2) fun r w2 st2 q=>.m9 (.pure q)) h) hc
theorem Bf{d:Expr}(a b:Option Expr)(q:Pos)(o i:Value):∃ops,subscripted (.Slice a b (some d) q) false o i=operate ops (getItem o i):=⟨_,rfl⟩
theorem BR(x:Ex)(ih:SE c n x):SE c n (.rev x):=.of rfl rfl fun e b fr w μ K hc X q=>p7 e (fun ve se p h=>B5 se (fun le ue de p' h=>by
 obtain⟨h1,h2,h3,h4⟩:=a4 h
 cases Option.isNone_iff_eq_none.mp h1
 cases Option.isNone_iff_eq_none.mp h2
 refine Ln (P:=fun de=>WP c [] b.A (eval (.Subscript ve (.Slice none none de p') p) b.env) w (PK c K)) de (fun de h=>Bg (P:=fun de=>WP c [] b.A (eval (.Subscript ve (.Slice none none (some de) p') p) b.env) w (PK c K)) de (fun o y p2 h=>?_) h) h3
 cases eq_of_beq (a2 h).1
 refine tU (P:=fun y=>WP c [] b.A (eval (.Subscript ve (.Slice none none (some (.UnaryOp .USub y p2)) p') p) b.env) w (PK c K)) y (fun cc k p3 h=>?_) (a2 h).2
 rw[eval_Subscript]
 refine .bE X (ih.v ve b fr w μ _ h4 X q) fun u w1 v μ1 st1 X1 C1 q=>?_
 rw[t8]
 refine .fO (P:=fun r w5=>∃sl t,r=.ref sl/\Sat c w5 μ1/\w5.h.IsSliceOf sl .none .none (.int (-1) t)) (.hold (.CC (.R1 (.fO (P:=fun r w4=>∃t,r=.int (-1) t/\Sat c w4 μ1) (.hold ?_) fun r w4 st4 q=>?_)))) fun r w5 st5 q'=>?_
 ·show WP c [] b.A (eval (.UnaryOp .USub (.Constant cc k p3) p2) b.env) w1 _
  rw[arm_eval_UnaryOp]
  refine .fO (xU (K:=fun v μ=>v=.d (.int 1)/\μ=μ1) X1.t (.int 1) h ⟨rfl,rfl⟩) fun r w2 st2 q=>?_
  obtain⟨v,μ2,S2,C2,rfl,rfl⟩:=q
  obtain⟨t,rfl⟩:=C2
  exact .bQ (.hold (.same (neg_int ⟨rfl,rfl,rfl,_,rfl,S2.keep Le.rfl⟩)))
 ·obtain⟨t,rfl,S4⟩:=q
  obtain⟨F5,st5,S5,hs⟩:=sj S4 .none .none (.int (-1) t)
  exact Fv ⟨_,rfl,st5,_,t,rfl,S5,hs⟩
 ·obtain⟨sl,t,rfl,S5,hs⟩:=q'
  have C5:=st5.cv C1
  refine .bQ ?_
  revert C5
  refine aB (P:=fun v=>CV c w5.F w5.a v u->_) v (fun d q=>oP d (fun l q C5=>?_) q) q
  obtain⟨a,vs,rfl,hl,d⟩:=bf.mp C5
  have hl:=aE S5.sub hl
  refine .Hy ⟨"list",_,hl.typeIs,slot_list_getitem.lookup⟩ ?_
  obtain⟨ops,e⟩:=Bf (d:=.UnaryOp .USub (.Constant cc k p3) p2) none none p' (.ref a) (.ref sl)
  rw[e]
  refine .bind (.operate (ij (wpAny_getItem_list_slice (st:=some (-1)) (lo:=none) (hi:=none) hl hs .none .none (.int _ _) (by decide) ?_ (by rw[List.size_toArray,<-d.len,a0];exact q.1)))) fun r w2 st2 q=>.m9 (.pure q)
  rw[krv_pick]
  exact iF S5 d.rev q.2) h) hc
theorem Bt(t:Ts)(ih:ST c n t):ST c n (.not t):=fun e b fr w μ K hc X q=>Bg e (fun o y p h=>by
 cases eq_of_beq (a2 h).1
 show WP c [] b.A (do return !(<-isTrue y b.env (eval y b.env))) w _
 refine .bB X (ih y b fr w μ _ (a2 h).2 X q) fun v w1 μ1 st X1 q=>.pure ⟨μ1,X1.t,?_⟩
 cases v with
 |true=>exact q
 |false=>exact q) hc
theorem uY(k:Bool)(ts:List Ts)(ih:LD c n ts):ST c n (.bool k ts):=fun e b fr w μ K hc X q=>yr e (fun o l p h=>by
 cases eq_of_beq (a2 h).1
 exact ih k l b fr w μ K (a2 h).2 X q) hc
theorem wh:LD c n []:=fun k es b fr w μ K hc X q=>by
 cases List.isEmpty_iff.mp hc
 exact .pure ⟨μ,X.t,by cases k<;>exact q⟩
theorem qo(t:Ts)(ts:List Ts)(ih:ST c n t)(ihs:LD c n ts):LD c n (t::ts):=fun k es b fr w μ K hc X q=>by
 cases es with
 |nil=>exact nf hc
 |cons e es=>
  show WP c [] b.A (do
   match yL k,<-isTrue e b.env (eval e b.env)with
   |.And,false=>pure false
   |.Or,true=>pure true
   |_,_=>allTrue (yL k) es b.env) w _
  refine .bB X (ih e b fr w μ _ (a2 hc).1 X q) fun v w1 μ1 st X1 q=>?_
  cases k with
  |true=>cases v with
   |true=>exact ihs true es b fr w1 μ1 K (a2 hc).2 X1 q
   |false=>exact .pure ⟨μ1,X1.t,q⟩
  |false=>cases v with
   |true=>exact .pure ⟨μ1,X1.t,q⟩
   |false=>exact ihs false es b fr w1 μ1 K (a2 hc).2 X1 q
theorem isTrue_plain{e:Expr}{env:Env}{whole:Sem Value}(h:R6 e=true)(h':Iv e (fun a b d=>true)=false):isTrue e env whole=(do let v<-whole;standAt e.pos;holding [v] (truthy v)):=by
 cases e with
 |UnaryOp o x p=>cases o with
  |Not=>exact nf h
  |_=>rfl
 |BoolOp o l p=>exact nf h
 |IfExp a b d p=>exact nf h
 |Compare l o r p=>exact nf h'.symm
 |_=>rfl
theorem Cy(x:Ex)(ih:SE c n x):ST c n (.val x):=fun e b fr w μ K hc X q=>by
 obtain⟨h1,h2,h3⟩:=a3 hc
 have h3:=eq_of_beq h3
 by_cases hx:JB x=true
 ·exact ih.t hx e b fr w μ K h1 X q
 ·rw[isTrue_plain h2 (h3.symm.trans (Bool.eq_false_iff.mpr hx))]
  refine .bE X (ih.v e b fr w μ _ h1 X q) fun u w1 v μ1 st X1 C1 q=>.bQ (.hold (aB v (fun d q=>LR d (fun v q C1=>?_) q) q C1))
  cases C1
  exact .truthy ⟨μ1,X1.t,q⟩
end
theorem nH{κ:Type}{l:List (Str×κ)}{x:Str}{k:κ}(hn:(l.map (·.1)).Nodup)(hm:(x,k)∈l):l.lookup x=some k:=by
 induction l with
 |nil=>cases hm
 |cons p l ih=>
  rw[List.map_cons,List.nodup_cons] at hn
  rw[List.lookup_cons]
  rcases List.mem_cons.mp hm with e|hm'
  ·cases e;rw[beq_self_eq_true]
  ·rw[show(x==p.1)=false from beq_eq_false_iff_ne.mpr fun e=>hn.1 (e▸List.mem_map.mpr ⟨(x,k),hm',rfl⟩)]
   exact ih hn.2 hm'
theorem dO:∀{ps:List Str} {us:List Value} {i:Nat} {x:Str},ps.Nodup->ps[i]? =some x->(ps.zip us).lookup x=us[i]?
 |p::ps,[],i,x,_,_=>by simp
 |p::ps,u::us,0,x,_,e=>by simp at e;subst e;simp
 |p::ps,u::us,i+1,x,hn,e=>by
  rw[List.nodup_cons] at hn
  have hx:x∈ps:=List.mem_of_getElem? (by simpa using e)
  have hne:x≠p:=fun q=>hn.1 (q▸hx)
  rw[List.zip_cons_cons,List.lookup_cons,show(x==p)=false from beq_eq_false_iff_ne.mpr hne]
  simpa using dO hn.2 (by simpa using e)
theorem z6{l m:List (Str×Value)}{x:Str}:(l++m).lookup x=(l.lookup x).or (m.lookup x):=List.lookup_append
noncomputable def o4:List (Str×Value)->List (Str×Value)->List (Str×Value)
 |slots,[]=>slots
 |slots,(x,d)::r=>o4 (if(slots.lookup x).isNone then slots++[(x,d)]else slots) r
theorem Ci(f:Str×Value->List (Str×Value)->Sem (ForInStep (List (Str×Value))))(hf:∀x d sl,f (x,d) sl=pure (.yield (if(sl.lookup x).isNone then sl++[(x,d)]else sl))):∀(l:List (Str×Value)) (sl:List (Str×Value)),forIn l sl f=pure (o4 sl l)
 |[],sl=>by rw[List.forIn_nil];rfl
 |(x,d)::r,sl=>by
  rw[List.forIn_cons,hf,pure_bind]
  exact Ci f hf r _
theorem nq:∀(l:List (Str×Value)) (sl:List (Str×Value)) (x:Str),(o4 sl l).lookup x=(sl.lookup x).or (l.lookup x)
 |[],sl,x=>by simp[o4]
 |(y,d)::r,sl,x=>by
  unfold o4
  rw[nq r,List.lookup_cons]
  cases hy:(sl.lookup y).isNone with
  |true=>
   simp only[if_true]
   rw[z6,List.lookup_cons]
   cases hx:x==y with
   |true=>
    have:x=y:=beq_iff_eq.mp hx
    subst this
    rw[Option.isNone_iff_eq_none.mp hy]
    simp
   |false=>simp
  |false=>
   simp only[Bool.false_eq_true,if_false]
   cases hx:x==y with
   |true=>
    have:x=y:=beq_iff_eq.mp hx
    subst this
    cases hs:sl.lookup x with
    |none=>rw[hs] at hy;cases hy
    |some v=>rfl
   |false=>rfl
theorem lR:∀{ps:List Str} {vs:List Value} {f:Str->Option Value},(∀(i:Nat) x,ps[i]? =some x->f x=vs[i]?)->ps.length=vs.length->ps.filterMap (fun n=>(f n).map (n,·))=ps.zip vs
 |[],_,_,_,_=>by simp
 |p::ps,[],_,_,hl=>by simp at hl
 |p::ps,v::vs,f,h,hl=>by
  have h0:=h 0 p rfl
  simp at h0
  rw[List.filterMap_cons_some (by rw[h0];rfl),List.zip_cons_cons,lR (fun i x e=>by simpa using h (i+1) x (by simpa using e)) (by simpa using hl)]
theorem nj{s:Shared}{fd:FuncData}{as:List Arg}{df:List Expr}{ps:List Str}{us dl:List Value}(hp:fd.params=⟨[],as,none,[],[],none,df⟩)(hps:as.map (·.arg)=ps)(nd:ps.Nodup)(h1:us.length<=ps.length)(h2:ps.length<=us.length+dl.length)(h3:dl.length<=ps.length)
  (hd:∀(M:Model) (A:Around) (E:Value->Shared->Prop) (Q:Option (Array Value)->Shared->Prop),(∀o,(o.getD #[]).toList=dl->Q o s)->wpAny M A (seqItems? fd.defaults) Q E s):
  BindsTo s fd ⟨us,[]⟩ (ps.zip (us++dl.drop (us.length+dl.length-ps.length))):=by
 intro M A E Q hq
 unfold bindArgs
 simp only[hp,hps,List.map_nil,List.nil_append,List.forIn_nil,pure_bind,Option.isNone_none,Bool.and_true]
 refine wpAny_bind (hd _ _ _ _ fun o ho=>?_)
 rw[ho]
 rw[if_neg (by simp;omega)]
 have e0:dl.length-ps.length=0:=by omega
 simp only[e0,List.drop_zero]
 have hmiss:(ps.take (ps.length-dl.length)).filter (fun n=>((ps.zip us).lookup n).isNone)=[]:=by
  rw[List.filter_eq_nil_iff]
  intro x hx
  obtain⟨i,hi⟩:=List.getElem?_of_mem hx
  rw[List.getElem?_take] at hi
  split at hi
  ·rw[dO nd hi]
   have:i<us.length:=by omega
   simp[this]
  ·cases hi
 rw[hmiss]
 simp only[List.isEmpty_nil,Bool.not_true,Bool.false_eq_true,if_false]
 rw[Ci _ (fun x d sl=>by cases h:(sl.lookup x).isNone<;>simp)]
 simp only[pure_bind,List.append_nil]
 have key:∀(i:Nat) x,ps[i]? =some x->(o4 (ps.zip us) ((ps.drop (ps.length-dl.length)).zip dl)).lookup x=(us++dl.drop (us.length+dl.length-ps.length))[i]? :=by
  intro i x e
  have hi:i<ps.length:=(List.getElem?_eq_some_iff.mp e).1
  rw[nq,dO nd e]
  by_cases hu:i<us.length
  ·rw[List.getElem?_append_left hu,List.getElem?_eq_getElem hu];rfl
  ·rw[List.getElem?_eq_none (by omega),List.getElem?_append_right (by omega),List.getElem?_drop]
   have nd':(ps.drop (ps.length-dl.length)).Nodup:=(List.drop_sublist _ _).nodup nd
   have e':(ps.drop (ps.length-dl.length))[i-(ps.length-dl.length)]? =some x:=by
    rw[List.getElem?_drop,show ps.length-dl.length+(i-(ps.length-dl.length))=i by omega];exact e
   rw[Option.none_or,dO nd' e']
   congr 1;omega
 have hfm:=lR (f:=fun x=>(o4 (ps.zip us) ((ps.drop (ps.length-dl.length)).zip dl)).lookup x) key (by simp;omega)
 have fin:wpAny M A (pure (ps.filterMap fun n=>((o4 (ps.zip us) ((ps.drop (ps.length-dl.length)).zip dl)).lookup n).map (n,·))) Q E s:=by
  rw[hfm];exact wpAny_pure hq
 exact fin
theorem zi{prog:Program}{w:World}{A:Around}{R:Result->Shared->Prop}{s:Shared}{K:Frag}{x C:Addr}{dx:Addr}{es:List DictEntry}{n:Nat}{name:Str}{tk:Tok}{v:Value}(X:K.In s.heap)
  (h1:s.heap.get? x=some (instObj C dx)) (h2:s.heap.get? dx=some (W.dictOf es n)) (hp:plainOver K C=true) (ht:takerIn K C name=some none) (hh:hasDictIn K C=true) (hl:(getL name es).isSome=true)
  (hz:(putL name (PyData.keyHash w.params name) (.str name s.toks) v es).length<=1000)
  (h:∀h',h'.get? dx=some (W.dictOf (putL name (PyData.keyHash w.params name) (.str name s.toks) v es) (putN name es n))->Heap.SameBut dx s.heap h'->R (.ok (.ret .none)) {s with heap:=h',toks:=s.toks+1}):
  codeAny (model prog w) A (.call (.builtin "object.__setattr__") ⟨[.ref x,.str name tk,v],[]⟩) R s:=by
 refine osa_open X (qs h1 h2) hp ht fun b=>?_
 obtain⟨cd,hc,hd'⟩:=any_some hh
 have D':(s.heap.update dx (Obj.putName name (PyData.keyHash w.params name) (.str name s.toks) v)).get? dx=some (W.dictOf (putL name (PyData.keyHash w.params name) (.str name s.toks) v es) (putN name es n)):=by
  have:=Heap.get?_update_self (Obj.putName name (PyData.keyHash w.params name) (.str name s.toks) v) h2 (by rw[putName_dict];rfl)
  rw[putName_dict] at this
  exact this
 refine wpAny_bind (wpAny_pure (wpAny_bind (wpAny_bind (wpAny_loadPart h1 (wpAny_bind ((looks_clsIn X hc).here ?_))))))
 rw[hd']
 refine wpAny_pure (a:=some dx) (wpAny_bind (wpAny_pure (wpAny_bind ?_)))
 unfold nsSet
 refine wpAny_bind (wpAny_bind (wpAny_askSetting (wpAny_pure (wpAny_bind (wpAny_mkText (wpAny_bind (wpAny_loadPart h2 ?_)))))))
 have hl':(lookIn name (W.dictOf es n)).isSome=true:=hl
 unfold lookIn at hl'
 dsimp only at hl'⊢
 have c:(!es.toArray.any (·.key.isStr name)&&es.toArray.any (·.refKey))=false:=by
  rw[<-Array.any_toList,<-Array.any_toList]
  split at hl'
  ·rename_i en he
   rw[List.any_eq_true.mpr ⟨en,List.mem_of_find?_eq_some he,List.find?_some he⟩];rfl
  ·split at hl'
   ·cases hl'
   ·rename_i z;rw[Bool.not_eq_true] at z;rw[z,Bool.and_false]
 rw[aRefKeyMayBeTheName_at,c]
 refine wpAny_updatePart h2 ?_
 refine wpAny_bind (wpAny_lookBehind D' (pastItsLine_dict (by rw[List.size_toArray,sizeLine_eq];omega)) ?_)
 exact wpAny_pure (h _ D' (Heap.SameBut.update ..))
theorem putL_new{x:Str}{hh:Int}{key v:Value}:∀{es:List DictEntry},(∀e∈es,e.key.isStr x=false)->putL x hh key v es=es++[⟨hh,key,v⟩]
 |[],_=>rfl
 |e::r,h=>by
  unfold putL
  rw[h e List.mem_cons_self]
  simp only[Bool.false_eq_true,if_false,List.cons_append]
  rw[putL_new fun e he=>h e (List.mem_cons_of_mem _ he)]
theorem Fh{x:Str}{es:List DictEntry}{n:Nat}(h:∀e∈es,e.key.isStr x=false):putN x es n=n+1:=by
 unfold putN
 rw[if_neg]
 rw[Bool.not_eq_true,List.any_eq_false]
 intro e he;rw[h e he];decide
theorem Fu{x:Str}{es:List DictEntry}(h:∀e∈es,e.key.isStr x=false/\e.refKey=false):getL x es=some none:=by
 unfold getL
 rw[List.find?_eq_none.mpr fun e he=>by rw[(h e he).1];decide]
 dsimp only
 rw[if_neg]
 rw[Bool.not_eq_true,List.any_eq_false]
 intro e he;rw[(h e he).2];decide
theorem jG(o:Expr)(x:Str)(p:Pos)(env:Env)(u:Value):assign (.Attribute o x p) env u=(do
  let ov<-holding [u] (eval o env)
  standAt p.atName
  holding [u,ov] (setAttr ov x u)
  release [u,ov] []):=rfl
theorem DN{A:Around}{E:Value->Shared->Prop}{s:Shared}{env:Env}{m:Str->Option Value}{K:Frag}{a C dx:Addr}{es:List DictEntry}{k:Nat}{x:Str}{v:Value}{p1 p2 p3 p4:Pos}{Q:Flow->Shared->Prop}{prog:Program}{w:World}
  (hk:env.scope.kind=.function) (h1:env.kindOf jK=some .local) (h2:env.kindOf x=some .local) (hxd:(x==Str.ofString "__debug__")=false) (hn:s.heap.Ns env.locals m) (ms:m jK=some (.ref a)) (mx:m x=some v)
  (g1:s.heap.get? a=some (instObj C dx)) (g2:s.heap.get? dx=some (W.dictOf es k)) (X:K.In s.heap) (O:qz K C) (T:jA K C x) (hes:∀e∈es,e.key.isStr x=false/\e.refKey=false) (hz:es.length<100)
  (hq:∀h' hs tk tk',h'.get? dx=some (W.dictOf (es++[⟨hs,.str x tk,v⟩]) (k+1))->Heap.SameBut dx s.heap h'->Q .next {s with heap:=h',toks:=tk'}):
  wpAny (model prog w) A (exec (.Assign [.Attribute (.Name jK p1) x p2] (.Name x p3) p4) env) Q E s:=by
 rw[plainObj_exec_Assign_Attribute _ _ _ _ _ rfl]
 refine wpAny_bind (wpAny_standAt (wpAny_bind (wpAny_Name (wpAny_loadName_local hk h2 hn mx ?_) hxd)))
 rw[jG]
 refine wpAny_bind (wpAny_bind (wpAny_holding (wpAny_Name (wpAny_loadName_local hk h1 hn ms ?_) (by decide))))
 refine wpAny_bind (wpAny_standAt (wpAny_bind (wpAny_holding ?_)))
 refine set_plain X (qs g1 g2) O.set (zi (s:={s with toks:=s.toks+1}) X g1 g2 O.over T.take O.hd (by rw[Fu hes];rfl) ?_ fun h' q1 q2=>?_)
 ·rw[putL_new fun e he=>(hes e he).1];simp;omega
 ·rw[putL_new fun e he=>(hes e he).1,Fh fun e he=>(hes e he).1] at q1
  intro Γ p hΓ
  rw[Sem.wp_release]
  exact wpAny_pure (hq h' _ _ _ q1 q2)
theorem zJ{A:Around}{E:Value->Shared->Prop}{env:Env}{m:Str->Option Value}{K:Frag}{a C dx:Addr}{prog:Program}{w:World}(hk:env.scope.kind=.function)(h1:env.kindOf jK=some .local)(ms:m jK=some (.ref a))(O:qz K C)(hne:a≠dx)(hLd:env.locals≠dx):
  ∀(ps:List (Str×Pos×Pos×Pos×Pos)) (vs:List Value) {s:Shared} {es:List DictEntry} {k:Nat} {Q:Flow->Shared->Prop},ps.length=vs.length->(ps.map (·.1)).Nodup->(∀(i:Nat) x,(ps.map (·.1))[i]? =some x->env.kindOf x=some .local/\m x=vs[i]? /\jA K C x/\(x==Str.ofString "__debug__")=false)->
   s.heap.Ns env.locals m->s.heap.get? a=some (instObj C dx)->s.heap.get? dx=some (W.dictOf es k)->K.In s.heap->(∀b o,K.lookup b=some o->b≠dx)->(∀x∈ps.map (·.1),∀e∈es,e.key.isStr x=false/\e.refKey=false)->es.length+ps.length<100->
   (∀h' new k' tk',h'.get? dx=some (W.dictOf (es++new) k')->Z (fun(q:Str×Value) (e:DictEntry)=>∃t,e.key=.str q.1 t/\e.val=q.2) ((ps.map (·.1)).zip vs) new->Heap.SameBut dx s.heap h'->Q .next {s with heap:=h',toks:=tk'})->
   wpAny (model prog w) A (execs (ps.map fun p=>.Assign [.Attribute (.Name jK p.2.1) p.1 p.2.2.1] (.Name p.1 p.2.2.2.1) p.2.2.2.2) env) Q E s
 |[],[],s,es,k,Q,_,_,_,hn,g1,g2,X,hKd,hes,hz,hq=>wpAny_execs_nil (by simpa using hq s.heap [] k s.toks (by simpa using g2) rfl (.refl ..))
 |p::ps,v::vs,s,es,k,Q,hl,hnd,hall,hn,g1,g2,X,hKd,hes,hz,hq=>by
  rw[List.map_cons] at hnd
  obtain⟨q1,q2,q3,q4⟩:=hall 0 p.1 rfl
  refine wpAny_execs_cons (DN hk h1 q1 q4 hn ms (by simpa using q2) g1 g2 X O q3 (hes _ (by simp)) (by simp at hz;omega) fun h1' hs tk tk' e1 e2=>?_)
  refine zJ hk h1 ms O hne hLd ps vs (es:=es++[⟨hs,.str p.1 tk,v⟩]) (by simpa using hl) (List.nodup_cons.mp hnd).2 (fun i x hi=>by simpa using hall (i+1) x (by simpa using hi)) (hn.sameBut e2 hLd) ((e2.2 _ hne).trans g1) e1
   (fun b o e=>(e2.2 _ (hKd b o e)).trans (X _ _ e)) hKd (fun x hx e he=>?_) (by simp at hz⊢;omega) fun h2' new k' tk2 f1 f2 f3=>?_
  ·rcases List.mem_append.mp he with he|he
   ·exact hes x (by rw[List.map_cons];exact List.mem_cons_of_mem _ hx) e he
   ·simp only[List.mem_singleton] at he;subst he
    refine⟨?_,rfl⟩
    have:p.1≠x:=fun q=>(List.nodup_cons.mp hnd).1 (q▸hx)
    show(p.1==x)=false
    exact beq_eq_false_iff_ne.mpr this
  ·refine hq h2' (⟨hs,.str p.1 tk,v⟩::new) k' tk2 (by simpa using f1) ⟨_,_,rfl,⟨tk,rfl,rfl⟩,f2⟩ (e2.trans f3)
 |[],_::_,_,_,_,_,hl,_,_,_,_,_,_,_,_,_,_=>by simp at hl
 |_::_,[],_,_,_,_,hl,_,_,_,_,_,_,_,_,_,_=>by simp at hl
theorem Ba{ps:List Str}{vs:List Value}{i:Nat}{x:Str}(hn:ps.Nodup)(h:ps[i]? =some x)(hl:ps.length=vs.length):(ps.zip vs).reverse.lookup x=vs[i]? :=by
 have hi:i<ps.length:=(List.getElem?_eq_some_iff.mp h).1
 have hv:vs[i]? =some vs[i]:=List.getElem?_eq_getElem (by omega)
 rw[hv]
 have hm:(x,vs[i])∈ps.zip vs:=by
  refine List.mem_of_getElem? (i:=i) ?_
  rw[List.getElem?_zip_eq_some]
  exact⟨h,hv⟩
 refine nH ?_ (List.mem_reverse.mpr hm)
 rw[List.map_reverse,List.map_fst_zip (by omega)]
 exact List.pairwise_reverse.mpr (hn.imp fun h=>Ne.symm h)
theorem Ei(C:Addr)(us:List Value):(Code.builtin "type.__call__" ⟨.ref C::us,[]⟩).weight=1:=by kernel_rfl
section
theorem tp{M:Model}{A:Around}{E:Value->Shared->Prop}{s:Shared}{Q:Option (Array Value)->Shared->Prop}(h:Q none s):wpAny M A (seqItems? .none) Q E s:=wpAny_pure h
section
variable{c:Cx}{n:Nat}{w:Wd}{μ:Mu}{K:KV}{A:Around}
theorem HY{fd:FuncData}{dv:List Value}(D:Qa c fd dv){s:Shared}(k:Le c.hB s.heap)(M:Model)(A:Around)(E:Value->Shared->Prop)(Q:Option (Array Value)->Shared->Prop)(hq:∀o,(o.getD #[]).toList=dv->Q o s):wpAny M A (seqItems? fd.defaults) Q E s:=by
 rcases D with⟨e1,e2⟩|⟨T,o,nn,e1,e2,e3⟩
 ·rw[e2];exact tp (hq _ e1.symm)
 ·rw[e1];exact wpAny_seqItems (k _ _ e2) e3 (hq _ rfl)
theorem uD(G:Good c){C:Addr}{xs:List Str}{us dv:List Value}{f:Addr}{fd:FuncData}{Q:Value->Wd->Prop}(I:wc c C xs dv f fd)(O:qz c.K C)(hA:ru A n)(hn:2<=n)(S:Sat c w μ)(nd:(jK::xs).Nodup)(few:xs.length<100)(hl1:us.length<=xs.length)(hl2:xs.length<=us.length+dv.length)(hl3:dv.length<=xs.length)
  (k:∀h' new k' tk,Le w.h h'->h'.get? (w.h.objs.size+1)=some (instObj C w.h.objs.size)->h'.get? w.h.objs.size=some (W.dictOf new k')->Z (fun(q:Str×Value) (e:DictEntry)=>∃t,e.key=.str q.1 t/\e.val=q.2) (xs.zip (us++dv.drop (us.length+dv.length-xs.length))) new->
   ∃w',w'.s={w.s with heap:=h',toks:=tk}/\Step c [] w w'/\Q (.ref (w.h.objs.size+1)) w'):WP c [] A (call (.ref C) us) w Q:=by
 obtain⟨o,i3,i4⟩:=I.obj
 obtain⟨as,df,i5,i6⟩:=I.params
 obtain⟨ps,i8,i9⟩:=I.body
 have X:=ud G S
 have kB:=S.base.trans S.sub
 obtain⟨pp,loose,mean,mg,mb,T⟩:=G.top
 obtain⟨F,ad,⟨hh,g,d,t,os⟩⟩:=w
 change Le c.hB hh at kB
 change c.K.In hh at X
 refine ij (wpAny_call (make_core (makes_of X I.made) (looks_findIn X I.find) (fun self=>bind_fn X self I.type) (.inl rfl) ?_))
 have kp:Le hh ((hh.push emptyDict).push (instObj C hh.objs.size)):=(Le.push _).trans (Le.push _)
 have z1:(hh.push emptyDict).objs.size=hh.objs.size+1:=Heap.size_push ..
 have g1:((hh.push emptyDict).push (instObj C hh.objs.size)).get? (hh.objs.size+1)=some (instObj C hh.objs.size):=by rw[<-z1];exact Heap.get?_push_size _ rfl
 have g2:((hh.push emptyDict).push (instObj C hh.objs.size)).get? hh.objs.size=some (W.dictOf [] 0):=Le.push _ _ _ (Heap.get?_push_size _ rfl)
 have z2:((hh.push emptyDict).push (instObj C hh.objs.size)).objs.size=hh.objs.size+2:=by rw[Heap.size_push,z1]
 generalize (hh.push emptyDict).push (instObj C hh.objs.size)=H at kp g1 g2 z2⊢
 have kb:=kB.trans kp
 have e0:(Value.ref (hh.objs.size+1)::us).length+dv.length-(jK::xs).length=us.length+dv.length-xs.length:=by rw[List.length_cons,List.length_cons];omega
 have hlen:(jK::xs).length=((Value.ref (hh.objs.size+1)::us)++dv.drop (us.length+dv.length-xs.length)).length:=by simp;omega
 have hbind:BindsTo ⟨H,g,d,t,os⟩ fd ⟨.ref (hh.objs.size+1)::us,[]⟩ ((jK::xs).zip ((.ref (hh.objs.size+1)::us)++dv.drop (us.length+dv.length-xs.length))):=
  e0▸nj i5 i6 nd (Nat.succ_le_succ hl1) (by simp;omega) (Nat.le_succ_of_le hl3) (HY I.SK kb)
 have hroom:(A.under (.builtin "type.__call__" ⟨.ref C::us,[]⟩)).depth<recursionLimit:=by
  have:=hA.depth
  show A.depth+(Code.builtin "type.__call__" ⟨.ref C::us,[]⟩).weight<recursionLimit
  rw[Ei]
  unfold recursionLimit;omega
 refine codeAny_call_def hroom (kb _ _ i3) i4 (T.nolimit.keeps kb) (I.code.keeps kb) i9 hbind I.cell (fun y hy=>I.loc y.1 (List.of_mem_zip hy).1) (fun h₀ hns hk0=>?_) I.co I.ge I.kind
 have hdx:hh.objs.size<H.objs.size:=by rw[z2];omega
 have lk:=fun i x hi=>Ba (i:=i) (x:=x) nd hi hlen
 refine zJ (dx:=hh.objs.size) (a:=hh.objs.size+1) (es:=[]) (k:=0) (K:=c.K) (C:=C) I.kind (env:=callEnv fd H.objs.size f) (I.loc jK List.mem_cons_self) (lk 0 jK rfl) O (Nat.succ_ne_self _) (Nat.ne_of_gt hdx) ps (us++dv.drop (us.length+dv.length-xs.length)) ?_ (i8▸(List.nodup_cons.mp nd).2) ?_ hns (hk0 _ _ g1) (hk0 _ _ g2) (fun b o e=>hk0 _ _ (kp _ _ (X b o e))) (fun b o e q=>absurd (Heap.lt_size (X b o e)) (by rw[q];exact Nat.lt_irrefl _)) (fun x h e he=>nomatch he) ?_ fun h' new k' tk' e1 e2 e3=>?_
 ·exact((TN ..).symm.trans (congrArg List.length i8)).trans (Nat.succ.inj hlen)
 ·rw[i8]
  intro i x hi
  have hx:=List.mem_of_getElem? hi
  exact⟨I.loc x (List.mem_cons_of_mem _ hx),lk (i+1) x hi,I.attr x hx⟩
 ·have:=congrArg List.length i8
  rw[TN] at this
  rw[this,List.length_nil,Nat.zero_add];exact few
 ·rw[i8] at e2
  rw[List.nil_append] at e1
  exact⟨rfl,k h' new k' tk' (fun b o e=>(e3.2 b (Nat.ne_of_lt (Heap.lt_size e))).trans (hk0 _ _ (kp _ _ e))) ((e3.2 _ (Nat.succ_ne_self _)).trans (hk0 _ _ g1)) e1 e2⟩
theorem K7(G:Good c){t:List Nat}{u:Value}(hA:ru A n)(hn:2<=n)(S:Sat c w μ)(q:K (.d (.atom t)) μ):CD c w.F (.str t) u->WP c [] A (call (.ref c.aC) [u]) w (PK c K):=by
 rintro⟨tk,rfl⟩
 obtain⟨f,fd,I⟩:=G.iA
 refine uD G I G.atom hA hn S (by decide) (by decide) (TG _) (TG _) (Nat.zero_le _) fun h' new k' tk' hk g1 g2 ha=>?_
 have S1:Sat c ⟨w.F,w.a,{w.s with heap:=h',toks:=tk'}⟩ μ:=S.keep (s:={w.s with heap:=h',toks:=tk'}) hk
 have st:Step c [] w ⟨w.F,w.a,{w.s with heap:=h',toks:=tk'}⟩:=Step.keeps (s:={w.s with heap:=h',toks:=tk'}) rfl rfl hk
 have n1:=S.new (cg w.h)
 have n2:=S.new (fh (h:=w.h) (Nat.le_succ _))
 obtain⟨F1,a1,a2,a3,S2⟩:=jz S1 g2 n1.2.1 n1.2.2
 obtain⟨F2,b1,b2,b3,S3⟩:=jz S2 g1 n2.2.1 n2.2.2
 refine⟨⟨F2,w.a,{w.s with heap:=h',toks:=tk'}⟩,rfl,(st.fast a2 a3 (cg _)).fast b2 b3 (fh (Nat.le_succ _)),.of (v:=.d (.atom t)) S3 ?_ q⟩
 obtain⟨⟨hs,key,val⟩,es,rfl,⟨tt,rfl,rfl⟩,rfl⟩:=ha
 exact⟨_,rfl,_,(hs,k',tt,tk),b1,b2 _ _ a1⟩
theorem Kn(G:Good c){d:List UInt8}{u:Value}(hA:ru A n)(hn:2<=n)(S:Sat c w μ)(q:w9 (.wire d 0) μ K):CD c w.F (.bytes d) u->WP c [] A (call (.ref c.wC) [u]) w (PK c K):=by
 rintro⟨tk,rfl⟩
 obtain⟨f,fd,t0,I⟩:=G.iW
 refine uD G I G.wire hA hn S (by decide) (by decide) (Nat.le_succ 1) (TG _) (Nat.le_succ 1) fun h' new k' tk' hk g1 g2 ha=>?_
 have S1:Sat c ⟨w.F,w.a,{w.s with heap:=h',toks:=tk'}⟩ μ:=S.keep (s:={w.s with heap:=h',toks:=tk'}) hk
 have st:Step c [] w ⟨w.F,w.a,{w.s with heap:=h',toks:=tk'}⟩:=Step.keeps (s:={w.s with heap:=h',toks:=tk'}) rfl rfl hk
 have n1:=S.new (cg w.h)
 have n2:=S.new (fh (h:=w.h) (Nat.le_succ _))
 obtain⟨F1,a1,a2,a3,S2⟩:=jz S1 g1 n2.2.1 n2.2.2
 obtain⟨⟨hs,key,val⟩,es,rfl,⟨tt,rfl,rfl⟩,⟨hs2,key2,val2⟩,es,rfl,⟨tt2,rfl,rfl⟩,rfl⟩:=ha
 have S3:=q9 (p:=w.h.objs.size+1) (m:=.wire d 0) S2 ⟨a3 _ (Nat.ne_of_lt (Nat.lt_succ_self _)) n1.1,n1.2.1,n1.2.2,⟨_,g2⟩⟩ ⟨_,g2⟩ ⟨a1,(hs,hs2,k',tt,tk,tt2,t0),g2⟩
 exact⟨⟨F1,w.a++[(w.h.objs.size+1,w.h.objs.size)],{w.s with heap:=h',toks:=tk'}⟩,rfl,(st.fast a2 a3 (fh (Nat.le_succ _))).own (cg _),.of S3 S2.loc (vw q)⟩
end
end
section
variable{c:Cx}{n:Nat}{b:Bk}{fr:Fr}{w:Wd}{μ:Mu}{K:KV}{A:Around}
theorem ru.of(E:vp c n b):ru b.A n:=⟨E.depth,E.units,E.handled⟩
theorem r7{p:Pos}{ct:Ct}{env:Env}(xs:List Ex):∀es,Dz c.g xs ct es=true->(backTo p (starEach es env)).any (·.1)=false:=by
 induction xs with
 |nil=>exact fun es h=>List.isEmpty_iff.mp h▸rfl
 |cons x xs ih=>
  intro es h
  cases es with
  |nil=>exact nf h
  |cons e es=>
   rw[uI (a3 h).2.1]
   exact ih es (a3 h).2.2
theorem O8{f:Value}{p:Pos}{Q:Args->Wd->Prop}(xs:List Ex)(es:List Expr)(hc:Dz c.g xs b.ct es=true)(h:WP c [] b.A (spliced (backTo p (starEach es b.env))) w fun vs w'=>Q ⟨vs,[]⟩ w'):WP c [] b.A (evalArgs f true (backTo p (starEach es b.env)) []) w Q:=by
 cases es with
 |nil=>
  show WP c [] b.A (spliced []>>=_) w Q
  exact aj (aG h fun vs s' h=>bj (aj (aH (aj (aH (aH h))))))
 |cons e es=>
  cases xs with
  |nil=>exact nf hc
  |cons x xs=>
   rw[uI (a3 hc).2.1] at h⊢
   exact IV h
theorem lx{f:Value}{first:List Value}{p q:Pos}{xs:List Ex}{es:List Expr}{K2:KL}{Q:Value->Wd->Prop}(ih:SL c n xs)(hc:Dz c.g xs b.ct es=true)(X:fk c n b fr w μ)(h:eL n xs fr μ K2)
  (k:∀us w2 l μ2,Step c [] w w2->fk c n b fr w2 μ2->fC c w2.F w2.a l us->K2 l μ2->rO c f w2.h/\WP c [] b.A (call f (first++us)) w2 Q):WP c [] b.A (callWith q f first (backTo p (starEach es b.env)) []) w Q:=by
 refine xt (P:=fun h=>rO c f h) (r7 xs es hc) (fun h hk=>hk) ?_
 refine aG (O8 (Q:=fun a w2=>rO c f w2.h/\WP c [] b.A (call f (first++a.pos) a.kw) w2 Q) xs es hc ((ih.1 es b fr w μ _ p hc X h).mono fun us w2 st q=>?_)) fun a s q=>?_
 ·obtain⟨l,μ2,S2,C2,q⟩:=q
  exact k us w2 l μ2 st (X.step st S2) C2 q
 ·obtain⟨w2,rfl,st,hk,q⟩:=q
  exact⟨hk,aG q fun v s q=>q.imp fun w3 q=>⟨q.1,st.trans q.2.1,q.2.2⟩⟩
theorem xh{a:Addr}{h:Heap}(hk:keepIn c.K (.ref a)=true)(X:c.K.In h):rO c (.ref a) h:=keeps_K hk h X
theorem F8(b:B)(h:Heap):rO c (ER b) h:=by
 cases b with
 |cV=>exact gR _ _|dg=>exact gR _ _|mS=>exact gR _ _|u9=>exact gR _ _|bF=>exact gR _ _|jV=>exact gR _ _
 |_=>exact BH _ _
theorem Hl(G:Good c){f:V}{l:List V}{u:Value}{us:List Value}(hA:ru A n)(S:Sat c w μ)(h:BO n f l μ K):CV c w.F w.a f u->fC c w.F w.a l us->rO c u w.h/\WP c [] A (call u us) w (PK c K):=
 have hk:=S.base.trans S.sub
 mZ f (fun x=>TO) (fun x=>TO) (fun i h C Cl=>C.elim fun a C=>(G.fn i a C.2).elim fun o e=>e.elim fun fd e=>C.1▸⟨vn (hk _ _ e.1) e.2,h c A w us a G C.2 hA S Cl⟩)
  (fun b h C Cl=>C▸⟨F8 b _,MM G hA.handled S h Cl⟩)
  (fun h C Cl=>C▸⟨xh G.kA (ud G S),call_one h (fun v u h=>aB v (fun d h=>nk d (fun t h=>K7 G hA h.1 S h.2) h) h) Cl⟩)
  (fun h C Cl=>C▸⟨xh G.kW (ud G S),call_one h (fun v u h=>aB v (fun d h=>km d (fun t h=>Kn G hA h.1 S h.2.2) h) h) Cl⟩)
  (fun j cs h C Cl=>h c A w us u G hA S C Cl) (fun l=>TO) h
theorem g'(f:Expr)(as:List Expr)(p:Pos)(env:Env)(h:tO f (fun u v p=>true)=false):eval (.Call f as [] p) env=(do callWith p (<-eval f env) [] (backTo p (starEach as env)) []):=by
 cases f with
 |Attribute a b q=>exact nf h.symm
 |_=>rfl
theorem wY(G:Good c)(x:Ex)(xs:List Ex)(ih:SE c n x)(ihs:SL c n xs):SE c n (.call x xs):=.of rfl rfl fun e b fr w μ K hc X q=>j0 e (fun f l ks p h=>by
 obtain⟨h1,h2,h3,h4⟩:=a4 h
 cases List.isEmpty_iff.mp h1
 rw[g' _ _ _ _ (Bool.not_eq_true' _▸h2)]
 exact .bE X (ih.v f b fr w μ _ h3 X q) fun u w1 v μ1 st X1 C1 q=>lx ihs h4 X1 q fun us w2 vs μ2 st2 X2 C2 q=>Hl G (.of X2.s) X2.t q (st2.cv C1) C2) hc
theorem rS(o:Expr)(x:Str)(q:Pos)(as:List Expr)(p:Pos)(env:Env):eval (.Call (.Attribute o x q) as [] p) env=(do
  let ov<-attributeBase o x env (eval o env)
  standAt q.atName
  methodCall o x q p env ov (as.length+0) (backTo p (starEach as env)) []):=rfl
theorem Em{o:Expr}{x:Str}{q p:Pos}{env:Env}{ov:Value}{as:List Expr}{xs:List Ex}{ct:Ct}(hc:Dz c.g xs ct as=true)(h1:q.endLine=p.line)(h2:as.length<30):
  methodCall o x q p env ov (as.length+0) (backTo p (starEach as env)) []=(do
   let(f,first)<-holding [ov] (getMethod ov x (do return (<-importBound o env).getD true))
   callWith p f first (backTo p (starEach as env)) []):=by
 have hf:methodCallForm (as.length+0) (backTo p (starEach as env)) []=true:=by
  unfold methodCallForm
  have:(backTo p (starEach as env)).all (!·.1)=true:=by
   rw[List.all_eq_true]
   exact fun y hy=>(congrArg not (Bool.eq_false_iff.mpr (List.any_eq_false.mp (r7 (p:=p) (env:=env) xs as hc) y hy)))
  rw[this]
  simp[h2]
 unfold methodCall
 rw[hf]
 have hp:methodCallPos true o env q p=pure p:=by
  unfold methodCallPos
  simp[h1]
 simp only[hp,calleeOf,if_true,pure_bind]
theorem pZ(G:Good c)(x:Ex)(m:Mt)(xs:List Ex)(ih:SE c n x)(ihs:SL c n xs):SE c n (.ag x m xs):=.of rfl rfl fun e b fr w μ K hc X q=>j0 e (fun f l ks p h=>by
 obtain⟨h1,h⟩:=a2 h
 cases List.isEmpty_iff.mp h1
 refine rP (P:=fun f=>WP c [] b.A (eval (.Call f l [] p) b.env) w (PK c K)) f (fun o y r h=>?_) h
 obtain⟨⟨⟨⟨⟨h1,h2⟩,h3⟩,h4⟩,h5⟩,h6⟩:((((_/\_)/\_)/\_)/\_)/\_:=(a2 h).imp (fun h=>(a2 h).imp (fun h=>(a2 h).imp (fun h=>(a2 h).imp a2 id) id) id) id
 rw[rS,Cw h6]
 refine .bE X (ih.v o b fr w μ _ h4 X q) fun u w1 v μ1 st X1 C1 q=>.bQ ?_
 rw[Em h5 (eq_of_beq h1) (TF h2)]
 obtain⟨K2,q,M⟩:=M0 G (.of X1.s) h3 X1.t q C1
 obtain⟨fv,first,g1,g2⟩:=M (do return (<-importBound o b.env).getD true)
 refine .bind (.hold (g1 (fun r w'=>r=(fv,first)/\w'=w1) ⟨rfl,rfl⟩)) fun r w2 st2 e=>?_
 obtain⟨rfl,rfl⟩:=e
 exact lx ihs h5 X1 q fun us w3 l μ3 st3 X3 C3 q=>g2 us w3 l μ3 st3 X3.t C3 q) hc
theorem CS(G:Good c){x:Str}{T:String}{p:Pos}{Q:Value->Wd->Prop}(hg:b.ct.ro.contains x=true)(e:nsIn c.K mainGlobals x=some none)(eb:bootBuiltins x=some (.type T))(hne:x≠"__name__")(X:fk c n b fr w μ)(h:Q (.type T) w):WP c [] b.A (eval (.Name x p) b.env) w Q:=by
 obtain⟨pp,loose,mean,mg,mb,T⟩:=G.top
 have hk:=X.t.base.trans X.t.sub
 refine .same (Name_function_global X.s.kind (X.s.kg x hg) ?_ (xF (X.s.nb x (.inr (.inr hg))).1))
 exact loadGlobal_builtin (env:=b.env) (by rw[X.s.glob];exact T.g.keeps hk) (mg_none_of G.KX T.g e) (by rw[X.s.NZ];exact T.b.keeps hk) ((T.builtins x hne).trans eb) ⟨rfl,rfl,rfl,h⟩
theorem Kz(x:Ex)(ih:SE c n x):SI c n (.ex x):=fun e b fr w μ K tt hc ht X q=>(ih.v e b fr w μ _ (a2 hc).1 X q).mono fun u w1 st q=>by
 obtain⟨v,μ1,S1,C1,q⟩:=q
 exact⟨fun env=>DJ (a2 hc).2 env u,O9 S1 st q C1⟩
theorem p8(G:Good c)(xs:List Ex)(ihs:SL c n xs):SI c n (.range xs):=fun e b fr w μ K tt hc ht X q=>j0 e (fun f l ks p h=>by
 obtain⟨h1,h⟩:=a2 h
 cases List.isEmpty_iff.mp h1
 refine dH (P:=fun f=>WP c [] b.A (eval (.Call f l [] p) b.env) w (fun u w1=>(∀env',foldedSetIterable (.Call f l [] p) env' u=pure u)/\WP c [] b.A (pyIter u) w1 (IP c tt K w))) f (fun y r h=>?_) h
 obtain⟨h1,h2,h3,h4⟩:=a4 h
 cases eq_of_beq h1
 rw[g' _ _ _ _ rfl]
 refine .fO (CS (Q:=fun r w'=>r=.type "range"/\w'=w) G h2 G.rg G.rb (by decide) X ⟨rfl,rfl⟩) fun r w' st e=>?_
 obtain⟨rfl,rfl⟩:=e
 cases xs with
 |nil=>exact q.elim
 |cons x xs=>cases xs with
  |cons y xs=>exact q.elim
  |nil=>
   refine lx (K2:=fun l μ=>one l fun v=>R3 K v μ) ihs h4 X q fun us w2 vs μ2 st2 X2 C2 q=>⟨gR _ _,?_⟩
   exact(call_one (Q:=fun u w1=>∀A,WP c [] A (pyIter u) w1 (IP c tt K w')) q (fun v u h=>aB v (fun d h=>bC d (fun i h C=>GQ X2.t st2 h C) h) h) C2).mono fun u w1 st q=>⟨fun env=>rfl,q b.A⟩) hc
theorem wN(G:Good c)(x:Ex)(ih:SE c n x):SI c n (.enum x):=fun e b fr w μ K tt hc ht X q=>j0 e (fun f l ks p h=>by
 obtain⟨h1,h⟩:=a2 h
 cases List.isEmpty_iff.mp h1
 cases ht rfl
 refine dH (P:=fun f=>WP c [] b.A (eval (.Call f l [] p) b.env) w (fun u w1=>(∀env',foldedSetIterable (.Call f l [] p) env' u=pure u)/\WP c [] b.A (pyIter u) w1 (IP c true K w))) f (fun y r h=>?_) h
 obtain⟨h1,h2,h3⟩:=a3 h
 cases eq_of_beq h1
 refine xE (P:=fun l=>WP c [] b.A (eval (.Call (.Name _ r) l [] p) b.env) w (fun u w1=>(∀env',foldedSetIterable (.Call (.Name _ r) l [] p) env' u=pure u)/\WP c [] b.A (pyIter u) w1 (IP c true K w))) l (fun a h=>?_) h3
 rw[g' _ _ _ _ rfl]
 refine .fO (CS (Q:=fun r w'=>r=.type "enumerate"/\w'=w) G h2 G.eg G.eb (by decide) X ⟨rfl,rfl⟩) fun r w' st e=>?_
 obtain⟨rfl,rfl⟩:=e
 refine lx (xs:=[x]) (K2:=fun l μ=>one l fun v=>P' K v μ) (qv x [] ih zG) (by show(cE c.g x b.ct a&&xc a&&true)=true;rw[h,Bool.and_true]) X (show eE n x fr μ (J2 (eL n [] fr) fun l μ=>one l fun v=>P' K v μ)from ?_) fun us w2 vs μ2 st2 X2 C2 q=>⟨gR _ _,?_⟩
 ·exact q
 ·exact(call_one (Q:=P2 c K w') q (fun v u h C=>vd X2.t st2 h C) C2).mono fun u w1 st q=>⟨fun env=>rfl,q b.A⟩) hc
end
section
theorem rt{sc:Scope}(h:tc sc=true):sc.kind=.function/\sc.isGenerator=false/\sc.isCoroutine=false/\(sc.names.map (·.1)).Nodup/\∀p∈sc.names,p.1≠Str.ofString "__debug__"/\p.1≠Str.ofString "__classdict__":=by
 unfold tc at h
 obtain⟨⟨⟨⟨h1,h2⟩,h3⟩,h4⟩,h5⟩:(((_/\_)/\_)/\_)/\_:=(a2 h).imp (fun h=>(a2 h).imp (fun h=>(a2 h).imp a2 id) id) id
 refine⟨eq_of_beq h1,Bool.not_eq_true' _▸h2,Bool.not_eq_true' _▸h3,of_decide_eq_true h4,fun p hp=>?_⟩
 have z:=List.any_eq_false.mp (Bool.not_eq_true' _▸h5) p hp
 rw[Bool.or_eq_true,beq_iff_eq,beq_iff_eq,not_or] at z
 exact z
noncomputable def gz(k:NameKind)(names:List (Str×NameKind)):List Str:=(names.filter fun x=>x.2==k).map (·.1)
theorem bJ{k:NameKind}{names:List (Str×NameKind)}{x:Str}:x∈gz k names↔(x,k)∈names:=by
 unfold gz
 rw[List.mem_map]
 constructor
 ·rintro⟨p,hp,rfl⟩
  rw[List.mem_filter] at hp
  exact eq_of_beq hp.2▸hp.1
 ·exact fun h=>⟨_,List.mem_filter.mpr ⟨h,beq_self_eq_true _⟩,rfl⟩
theorem u7{k:NameKind}{names:List (Str×NameKind)}(h:(names.map (·.1)).Nodup):(gz k names).Nodup:=((List.filter_sublist).map _).nodup h
theorem tK{k:NameKind}(p:Str×NameKind)(r:List (Str×NameKind)):gz k (p::r)=if p.2==k then p.1::gz k r else gz k r:=by
 unfold gz
 rw[List.filter_cons]
 split<;>rfl
section
variable{c:Cx}{n:Nat}{b:Bk}{fr:Fr}{w:Wd}{μ:Mu}{A:Around}
theorem sr(names:List (Str×NameKind)):∀(w:Wd) (μ:Mu) acc,(names.map (·.1)).Nodup->Sat c w μ->∃new,Step c [] w ⟨w.F,w.a++new,{w.s with heap:=pushCells w.h names}⟩/\Sat c ⟨w.F,w.a++new,{w.s with heap:=pushCells w.h names}⟩ (μ++List.replicate new.length (.cell none))/\
  Z (fun x p=>p.1=p.2/\(cellsFrom w.h.objs.size names acc).lookup x=some p.2) (gz .cell names) new/\∀x,x∉gz .cell names->(cellsFrom w.h.objs.size names acc).lookup x=acc.lookup x:=by
 induction names with
 |nil=>exact fun w μ acc nd S=>⟨[],by rw[List.append_nil];exact .rfl,by rw[List.append_nil];exact(List.append_nil μ).symm▸S,rfl,fun x h=>rfl⟩
 |cons p r ih=>
  intro w μ acc nd S
  obtain⟨y,k⟩:=p
  have nd':=List.nodup_cons.mp nd
  rw[tK]
  unfold pushCells cellsFrom
  by_cases hk:(k==NameKind.cell)=true
  ·rw[if_pos hk,if_pos hk,if_pos (show((y,k):Str×NameKind).2==NameKind.cell from hk)]
   have e:(w.h.push {cls:=.type "cell",data:=.cell none}).get? w.h.objs.size=some {cls:=.type "cell",data:=.cell none}:=Heap.get?_push_size _ rfl
   have kp:=Le.push (h:=w.h) {cls:=.type "cell",data:=.cell none}
   have st:=(Step.keeps (c:=c) (L:=[]) (w:=w) (s:={w.s with heap:=w.h.push {cls:=.type "cell",data:=.cell none}}) rfl rfl kp).own (p:=w.h.objs.size) (cg w.h)
   have S1:=q9 (w:=⟨w.F,w.a,{w.s with heap:=w.h.push {cls:=.type "cell",data:=.cell none}}⟩) (p:=w.h.objs.size) (m:=.cell none) (S.keep (s:={w.s with heap:=w.h.push _}) kp) (gu (s:={w.s with heap:=w.h.push _}) S kp (cg _) ⟨_,e⟩) ⟨_,e⟩ ⟨rfl,none,⟨_,e,rfl⟩,fun x h=>nomatch h⟩
   obtain⟨new,st2,S2,z,o⟩:=ih _ _ ((y,w.h.objs.size)::acc) nd'.2 S1
   have hz:(w.h.push {cls:=.type "cell",data:=.cell none}).objs.size=w.h.objs.size+1:=Heap.size_push ..
   have hy:y∉gz .cell r:=fun q=>nd'.1 (List.mem_map.mpr ⟨_,bJ.mp q,rfl⟩)
   refine⟨(w.h.objs.size,w.h.objs.size)::new,?_,?_,⟨_,_,rfl,⟨rfl,?_⟩,?_⟩,fun x h=>?_⟩
   ·rw[List.append_cons];exact st.trans st2
   ·rw[List.append_cons w.a,List.length_cons,List.replicate_succ,List.append_cons μ];exact S2
   ·have:=o y hy
    rw[show Wd.h ⟨w.F,w.a++[(w.h.objs.size,w.h.objs.size)],{w.s with heap:=w.h.push {cls:=.type "cell",data:=.cell none}}⟩=w.h.push {cls:=.type "cell",data:=.cell none}from rfl,hz,List.lookup_cons,beq_self_eq_true] at this
    exact this
   ·rw[<-hz];exact z
   ·have:=o x fun q=>h (.tail _ q)
    rw[<-hz]
    refine this.trans ?_
    rw[List.lookup_cons,show(x==y)=false from beq_eq_false_iff_ne.mpr fun q=>h (q▸.head _)]
  ·rw[if_neg hk,if_neg hk,if_neg (show¬(((y,k):Str×NameKind).2==NameKind.cell)=true from hk)]
   exact ih w μ acc nd'.2 S
theorem Mz(env:Env)(f:Str×NameKind->List (Str×Addr)->Sem (ForInStep (List (Str×Addr))))
  (hf:∀x k cs,f (x,k) cs=if k==.free then(do let b<-cellOf env x;pure (.yield ((x,b)::cs)))else pure (.yield cs)) (names:List (Str×NameKind)):∀acc,(names.map (·.1)).Nodup->(∀x,(x,NameKind.free)∈names->∃b,env.cells.lookup x=some b)->
  ∃cl,forIn names acc f=pure cl/\(∀x b,(x,NameKind.free)∈names->env.cells.lookup x=some b->cl.lookup x=some b)/\∀x,x∉names.map (·.1)->cl.lookup x=acc.lookup x:=by
 induction names with
 |nil=>exact fun acc nd h=>⟨acc,List.forIn_nil,fun x b m=>(nomatch m),fun x h=>rfl⟩
 |cons p r ih=>
  obtain⟨y,k⟩:=p
  intro acc nd h
  have nd':=List.nodup_cons.mp nd
  rw[List.forIn_cons,hf]
  by_cases hk:(k==NameKind.free)=true
  ·rw[if_pos hk]
   cases eq_of_beq hk
   obtain⟨b,hb⟩:=h y (.head _)
   rw[show cellOf env y=pure b by unfold cellOf;rw[hb],pure_bind,pure_bind]
   obtain⟨cl,e,h1,h2⟩:=ih ((y,b)::acc) nd'.2 fun x m=>h x (.tail _ m)
   refine⟨cl,e,fun x b' m e'=>(List.mem_cons.mp m).elim (fun q=>?_) fun m=>h1 x b' m e',fun x hx=>?_⟩
   ·cases q
    rw[h2 y nd'.1,List.lookup_cons,beq_self_eq_true,<-e',hb]
   ·rw[h2 x fun q=>hx (.tail _ q),List.lookup_cons,show(x==y)=false from beq_eq_false_iff_ne.mpr fun q=>hx (q▸.head _)]
  ·rw[if_neg hk,pure_bind]
   obtain⟨cl,e,h1,h2⟩:=ih acc nd'.2 fun x m=>h x (.tail _ m)
   exact⟨cl,e,fun x b' m e'=>(List.mem_cons.mp m).elim (fun q=>by cases q;exact absurd rfl hk) fun m=>h1 x b' m e',fun x hx=>h2 x fun q=>hx (.tail _ q)⟩
theorem EZ(sc:Scope)(env:Env)(nd:(sc.names.map (·.1)).Nodup)(h:∀x,(x,NameKind.free)∈sc.names->∃b,env.cells.lookup x=some b):∃cl,closureFor sc env=pure cl/\∀x b,(x,NameKind.free)∈sc.names->env.cells.lookup x=some b->cl.lookup x=some b:=by
 have key:∀f:Str×NameKind->List (Str×Addr)->Sem (ForInStep (List (Str×Addr))),(∀x k cs,f (x,k) cs=if k==.free then(do let b<-cellOf env x;pure (.yield ((x,b)::cs)))else pure (.yield cs))->closureFor sc env=(forIn sc.names [] f>>=fun r=>pure r)->∃cl,closureFor sc env=pure cl/\∀x b,(x,NameKind.free)∈sc.names->env.cells.lookup x=some b->cl.lookup x=some b:=fun f hf e=>by
  obtain⟨cl,e2,h1,h2⟩:=Mz env f hf sc.names [] nd h
  exact⟨cl,by rw[e,e2,pure_bind],h1⟩
 exact key _ (fun x k cs=>by cases hk:k==NameKind.free<;>simp[hk]) rfl
noncomputable def rl(env:Env):Str×NameKind->Str×NameKind:=fun(n,k)=>if(k==NameKind.free&&env.scope.kind==.function&&env.kindOf n==some .cell)then(n,NameKind.cell)else(n,k)
theorem Lq(env:Env)(n:Str)(k:NameKind):rl env (n,k)=(n,k)\/(k=.free/\rl env (n,k)=(n,.cell)):=by
 by_cases hc:(k==NameKind.free&&env.scope.kind==.function&&env.kindOf n==some .cell)=true
 ·exact .inr ⟨eq_of_beq (a3 hc).1,if_pos hc⟩
 ·exact .inl (if_neg hc)
theorem uX{env:Env}{names:List (Str×NameKind)}{x:Str}{k:NameKind}(h:names.lookup x=some k):(names.map (rl env)).lookup x=some k\/(k=.free/\(names.map (rl env)).lookup x=some .cell):=by
 induction names with
 |nil=>cases h
 |cons p r ih=>
  obtain⟨y,k'⟩:=p
  rw[List.lookup_cons] at h
  rw[List.map_cons]
  cases hx:x==y with
  |true=>
   rw[hx] at h
   cases h
   rcases Lq env y k with q|⟨q,q'⟩
   ·rw[q,List.lookup_cons,hx];exact .inl rfl
   ·rw[q',List.lookup_cons,hx];exact .inr ⟨q,rfl⟩
  |false=>
   rw[hx] at h
   rcases Lq env y k' with q|⟨q,q'⟩
   ·rw[q,List.lookup_cons,hx];exact ih h
   ·rw[q',List.lookup_cons,hx];exact ih h
theorem rk{ct:Ct}{l:List Str}{m:List Nat}(h:frees ct l m=true):Z (fun x j=>ct.cells[j]? =some x) l m:=by
 refine Z.of (eq_of_beq (a2 h).1) fun i x j h1 h2=>?_
 have:=List.all_eq_true.mp (a2 h).2 (x,j) (List.mem_of_getElem? (i:=i) (List.getElem?_zip_eq_some.mpr ⟨h1,h2⟩))
 exact eq_of_beq this
theorem Ju{f:Nat->Option Nat}(l:List Nat):∀m,l.mapM f=some m->Z (fun a b=>f a=some b) l m:=by
 induction l with
 |nil=>exact fun m h=>(Option.some.inj h).symm
 |cons a l ih=>
  intro m h
  rw[List.mapM_cons] at h
  obtain⟨b,h1,h⟩:=Option.bind_eq_some_iff.mp h
  obtain⟨bs,h2,h⟩:=Option.bind_eq_some_iff.mp h
  exact⟨b,bs,(Option.some.inj h).symm,h1,ih bs h2⟩
theorem ri(X:fk c n b fr w μ){l:List Str}{m cs:List Nat}(hf:frees b.ct l m=true)(hm:m.mapM (fr.cs[·]?)=some cs):Z (IC w.a b.env.cells) l cs:=by
 have h1:=rk hf
 have h2:=Ju m cs hm
 refine Z.of (h1.len.trans h2.len) fun i x k e1 e2=>?_
 obtain⟨j,e3,q⟩:=h1.get e1
 obtain⟨k',e4,q'⟩:=h2.get e3
 obtain⟨k2,e5,q2⟩:=X.d.cells.get q
 cases e2.symm.trans e4
 cases q'.symm.trans e5
 exact q2
end
end
section
theorem yd{M:Model}{A:Around}{E:Value->Shared->Prop}{s:Shared}{scope:Scope}{globals:Addr}{cl:List (Str×Addr)}{qual:Str}{outer:Env}{Q:Env->Shared->Prop}
  (h:Q {scope,locals:=s.heap.objs.size,globals,cells:=cellsFrom (s.heap.objs.size+1) scope.names cl,qual,func:=none,code:=outer.code,frame:=outer.frame,builtins:=outer.builtins}
   {s with heap:=pushCells (s.heap.push {cls:=.type "dict",data:=.dict #[]}) scope.names}):wpAny M A (newFunctionEnv scope globals cl [] qual none .none (some outer)) Q E s:=by
 simp only[newFunctionEnv,Option.isSome_some,if_true]
 refine wpAny_bind (wpAny_alloc ?_)
 refine wpAny_bind (wpAny_layCells _ (fun name kind cells=>by cases hkc:kind==NameKind.cell<;>simp) _ _ _ _ ?_)
 refine wpAny_bind ?_
 rw[List.forIn_nil]
 refine wpAny_pure (wpAny_pure ?_)
 rw[show({s with heap:=s.heap.push {cls:=.type "dict",data:=.dict #[]}}:Shared).heap.objs.size=s.heap.objs.size+1 from Heap.size_push ..]
 exact h
theorem Av{α:Type}{M:Model}{A:Around}{s:Shared}{c:Prop}[Decidable c]{pos:Pos}{k:PUnit->Sem α}{Q:α->Shared->Prop}(h:wA M A (k ()) Q s):wA M A (if c then(standAt pos>>=k)else k ()) Q s:=A1 (aj (eM h)) h
def Lr(M:Model)(A:Around)(use:Option (Value->Sem Unit))(Q:Value->Shared->Prop)(acc:Value)(C:Addr)(f:Flow)(s':Shared):Prop:=match use with
 |none=>∃m,s'.heap.Ns C m/\∀h',Heap.SameBut C s'.heap h'->Q acc {s' with heap:=h'}
 |some u=>wA M A (u acc) (fun d s''=>∃m,s''.heap.Ns C m/\∀h',Heap.SameBut C s''.heap h'->Q .none {s'' with heap:=h'}) s'
theorem IK{M:Model}{A:Around}{s:Shared}{e:Expr}{scope:Scope}{env:Env}{pos:Pos}{newAcc first:Sem Value}{g:Comprehension}{gs:List Comprehension}{cl:List (Str×Addr)}{use:Option (Value->Sem Unit)}{Q:Value->Shared->Prop}
  (hcl:clausesOf e=g::gs) (hclos:closureFor scope env=pure cl) (hkind:scope.kind=.function) (hnames:∀x∈scope.names,x.2=.local->scope.names.lookup x.1=some .local)
  (h:wA M A first (fun x s₁=>foldedSetIterable g.iter env x=pure x/\wA M A (pyIter x) (fun it s₂=>wA M A newAcc (fun acc s₃=>wA M A (newFunctionEnv scope env.globals cl [] env.qual none .none (some env)) (fun cenv s₄=>
    cA M A (.compStart e 0 it acc {cenv with scope:=relabel scope env}) (Lr M A use Q acc cenv.locals) s₄) s₃) s₂) s₁) s):
  wA M A (comprehension e scope env pos newAcc false first use) Q s:=by
 unfold comprehension
 rw[hclos,hcl]
 refine aj (aG h fun x s₁ h₁=>aj (eM (aj (uh h₁.1 (aj (bj (aG h₁.2 fun it s₂ h₂=>Av ?_)))))))
 refine aj (aG h₂ fun acc s₃ h₃=>aj (aH (aj (aG h₃ fun cenv s₄ h₄=>?_))))
 dsimp only
 have hv:∀x∈(scope.names.filter fun x=>(x.2==.local||x.2==.cell)&&x.1 != (".0":Str)).reverse,x.2=.local->Env.kindOf {cenv with scope:=relabel scope env} x.1=some .local:=
  fun x hx hl=>lookup_relabel_local (hnames x (List.mem_filter.mp (List.mem_reverse.mp hx)).1 hl)
 refine bj (aj (AM (bj (Hd (qn h₄ fun f s' hr=>?_)))))
 cases use with
 |none=>
  obtain⟨m,hn,hr⟩:=hr
  exact aj (bj (ij (wpAny_comp_letGo (cenv:={cenv with scope:=relabel scope env}) hkind _ s' m hv hn fun h' m' x q=>aH (hr h' q))))
 |some u=>
  refine aj (qq (aj (bj (aG hr fun d s'' q=>?_))))
  obtain⟨m,hn,hr⟩:=q
  refine aj (ij (wpAny_comp_letGo (cenv:={cenv with scope:=relabel scope env}) hkind _ s'' m (fun x hx=>hv x ?_) hn fun h' m' x q=>aH (hr h' q)))
  exact(List.mem_append.mp hx).elim List.mem_of_mem_drop List.mem_of_mem_take
section
variable{c:Cx}{n:Nat}{b:Bk}{fr:Fr}{w w1 w5:Wd}{μ μ1 μ2:Mu}{A:Around}{K:KV}{L:List Addr}
theorem conv{m:Bool}{T:Addr}{zs:List Value}{ds:List D}(x:Step c L w1 w5)(S1:Sat c w1 μ1)(S5:Sat c w5 μ2)(hl:w5.h.PlainList T zs.toArray)(d:jm c w5.F ds zs)(p:Pv c w5 T)(hT:w1.h.get? T=none)(q:cond m (AG K ds μ2) (Gf μ1 K ds μ2)):
  ∃w6:Wd,w6.s=w5.s/\Step c L w1 w6/\PK c K (.ref T) w6/\∀C,Pv c w5 C->C≠T->Pv c w6 C:=by
 obtain⟨nn,ho⟩:=id hl
 cases m with
 |true=>
  have S6:=q9 (p:=T) (m:=.list ds) S5 p ⟨_,ho⟩ ⟨rfl,zs,hl,d⟩
  exact⟨⟨w5.F,w5.a++[(T,T)],w5.s⟩,rfl,x.own (p:=T) hT,.of S6 S5.loc (vw q),fun C pC hC=>⟨pC.f,fun k=>(fV.mp k).elim pC.o fun k=>hC (List.mem_singleton.mp k),pC.t,pC.l⟩⟩
 |false=>
  obtain⟨F',f1,f2,f3,S6⟩:=jz S5 ho p.o p.t
  have x6:=x.fast f2 f3 hT
  obtain⟨new,e,hn⟩:=x.pre
  obtain⟨F5,a5,s5⟩:=w5
  cases e
  obtain⟨h1,q⟩:=Io q
  rw[<-S1.len] at h1 q
  exact⟨⟨F',w1.a,s5⟩,rfl,x6.Ot,.of (v:=.d (.list ds)) (S6.cut (h1 S1.cl)) (bf.mpr ⟨T,zs,rfl,⟨_,f1,rfl,nn,rfl⟩,d.mono f2⟩) q,fun C pC hC=>⟨f3 C hC pC.f,fun k=>pC.o (fV.mpr (.inl k)),pC.t,pC.l⟩⟩
noncomputable def Ds(sc:Scope)(cells:List (Str×Addr))(C:Addr)(env:Env):Env:=
 {scope:=relabel sc env,locals:=C,globals:=env.globals,cells:=cells,qual:=env.qual,func:=none,code:=env.code,frame:=env.frame,builtins:=env.builtins}
theorem ja{names:List (Str×NameKind)}{k:NameKind}{x:Str}(nd:(names.map (·.1)).Nodup)(h:x∈gz k names):names.lookup x=some k:=nH nd (bJ.mp h)
theorem zx{fr:Fr}{i j:Nat}{v:V}(h:(List.replicate j (none:Option V))[i]? =some (some v)):False:=by
 rw[List.getElem?_replicate] at h
 split at h
 ·exact nomatch Option.some.inj h
 ·exact cF h
theorem NP(E:vp c n b){sc:Scope}(hsc:tc sc=true)(cells:List (Str×Addr))(C:Addr):vp c n ⟨b.A,inner sc b.ct,Ds sc cells C b.env⟩:=by
 obtain⟨h1,h2,h3,nd,h5⟩:=rt hsc
 have lk:∀{k x},x∈gz k sc.names->(Ds sc cells C b.env).kindOf x=some k\/(k=.free/\(Ds sc cells C b.env).kindOf x=some .cell):=fun hx=>uX (ja nd hx)
 refine⟨E.depth,E.units,E.handled,h1,E.glob,E.NZ,fun x hx=>?_,fun x hx=>?_,fun x hx=>?_,fun x hx=>?_,u7 nd,E.code,E.frame,E.qual⟩
 ·exact(lk hx).elim id fun q=>nomatch q.1
 ·exact(List.mem_append.mp hx).elim (fun hx=>.inl ((lk hx).elim id fun q=>nomatch q.1)) fun hx=>(lk hx).elim .inr fun q=>.inl q.2
 ·exact(lk (List.contains_iff_mem.mp hx)).elim id fun q=>nomatch q.1
 ·exact hx.elim (fun hx=>h5 _ (bJ.mp hx)) fun hx=>hx.elim (fun hx=>(List.mem_append.mp hx).elim (fun hx=>h5 _ (bJ.mp hx)) fun hx=>h5 _ (bJ.mp hx)) fun hx=>h5 _ (bJ.mp (List.contains_iff_mem.mp hx))
end
end
section
variable{c:Cx}{n:Nat}{b:Bk}{fr:Fr}{w w' w1 w5:Wd}{μ μ1 μ2:Mu}{A:Around}{K:KV}{L:List Addr}{tt:Bool}{g:Option (Nat×List D)}{I:Addr}{pv:List Addr}{items:List V}
theorem Step.more{L':List Addr}(x:Step c L w w')(k:∀b∈L,b∈L'):Step c L' w w':=x.cut fun b m=>.inl (k b m)
theorem Iter.step(h:Iter c tt g I pv items w)(x:Step c L w w')(hL:∀b∈pv,b∉L):Iter c tt g I pv items w':=by
 have k:∀{L'},(∀b∈pv,b∉L')->∀b∈pv,b∉L++L':=fun h b m q=>(List.mem_append.mp q).elim (hL b m) (h b m)
 have st:∀{L' w2},Step c L' w' w2->Step c (L++L') w w2:=fun y=>(x.more fun b m=>List.mem_append_left _ m).trans (y.more fun b m=>List.mem_append_right _ m)
 cases items with
 |nil=>exact fun w2 L' μ A y h1=>h w2 _ μ A (st y) (k h1)
 |cons x xs=>exact fun w2 L' μ A te y h1=>h w2 _ μ A te (st y) (k h1)
theorem ug(G:Good c)(X1:fk c n b fr w1 μ1){elt:Ex}{tg:Tg}{ifs:List Ts}{ee te ie:Expr}{es:List Expr}{sc:Scope}{pos:Pos}{free cs:List Nat}{cl:List (Str×Addr)}{KD:KD}{RR:Value->Addr->Flow->Shared->Prop}(hsc:tc sc=true)
  (he:cE c.g elt (inner sc b.ct) ee=true) (hg:cG c.g tg (inner sc b.ct) te=true) (hi:LF c.g ifs (inner sc b.ct) es=true) (ht:tt=true->tE te (fun l=>true)=true) (hf:frees b.ct (pick .free sc) free=true) (hm:free.mapM (fr.cs[·]?)=some cs)
  (hcl:∀x b',(x,NameKind.free)∈sc.names->b.env.cells.lookup x=some b'->cl.lookup x=some b') (hp:∀b∈pv,Pv c w1 b) (It:Iter c tt g I pv items w1) (hs:∀A w' L μ,A.handled=none->Step c L w1 w'->(∀b∈pv,b∉L)->Sat c w' μ->wpAny c.M A (pyIter (.ref I)) (fun u s=>u=.ref I/\s=w'.s) xd w'.s)
  (hz:items.length<=lim) (hW:wC n elt tg ifs items g ⟨List.replicate (pick .local sc).length none,(List.range (pick .cell sc).length).map (μ1.length+·)++cs⟩ (μ1++List.replicate (pick .cell sc).length (.cell none)) KD)
  (k:∀T C f w5 zs ds μ2,Step c (C::T::pv) w1 w5->Sat c w5 μ2->w5.h.PlainList T (zs:List Value).toArray->jm c w5.F ds zs->(∃m,w5.h.Ns C m)->Pv c w5 T->Pv c w5 C->C≠T->w1.h.get? T=none->w1.h.get? C=none->KD ds μ2->RR (.ref T) C f w5.s):
  wA c.M b.A (newList []) (fun acc s₃=>wA c.M b.A (newFunctionEnv sc b.env.globals cl [] b.env.qual none .none (some b.env)) (fun cenv s₄=>cA c.M b.A (.compStart (.ListComp ee [⟨te,ie,es,0⟩] sc pos) 0 (.ref I) acc {cenv with scope:=relabel sc b.env}) (RR acc cenv.locals) s₄) s₃) w1.s:=by
 refine ij (wpAny_newObj_type (ij (yd ?_)) (by size_fits))
 show cA _ _ (.compStart _ 0 (.ref I) (.ref w1.h.objs.size) (Ds sc _ _ b.env)) _ _
 obtain⟨h1,h2,h3,nd,h5⟩:=rt hsc
 generalize e1:w1.h.push {cls:=.type "list",data:=.seq ([]:List Value).toArray}=H1
 have z1:H1.objs.size=w1.h.objs.size+1:=by rw[<-e1];exact Heap.size_push ..
 have k1:Le w1.h H1:=e1▸Le.push _
 have l1:H1.PlainList w1.h.objs.size ([]:List Value).toArray:=by rw[<-e1];exact⟨_,Heap.get?_push_size _ rfl⟩
 show cA _ _ (.compStart _ 0 (.ref I) (.ref w1.h.objs.size) (Ds sc (cellsFrom (H1.objs.size+1) sc.names cl) H1.objs.size b.env)) (RR (.ref w1.h.objs.size) H1.objs.size) {w1.s with heap:=pushCells (H1.push {cls:=.type "dict",data:=.dict #[]}) sc.names}
 generalize e2:H1.push {cls:=.type "dict",data:=.dict #[]}=H2
 have z2:H2.objs.size=H1.objs.size+1:=by rw[<-e2];exact Heap.size_push ..
 have k2:Le H1 H2:=e2▸Le.push _
 have hns:H2.Ns H1.objs.size fun x=>none:=by rw[<-e2];exact Heap.Ns.new ..
 have l2:H2.PlainList w1.h.objs.size ([]:List Value).toArray:=l1.imp fun n e=>k2 _ _ e
 clear e1 e2
 have nT:w1.h.get? w1.h.objs.size=none:=cg _
 have nC:w1.h.get? H1.objs.size=none:=fh (z1▸Nat.le_succ _)
 have ne:H1.objs.size≠w1.h.objs.size:=z1▸Nat.succ_ne_self _
 have xa:Step c [] w1 ⟨w1.F,w1.a,{w1.s with heap:=H2}⟩:=Step.keeps (s:={w1.s with heap:=H2}) rfl rfl (k1.trans k2)
 have Sa:Sat c ⟨w1.F,w1.a,{w1.s with heap:=H2}⟩ μ1:=X1.t.keep (s:={w1.s with heap:=H2}) (k1.trans k2)
 have pT:Pv c ⟨w1.F,w1.a,{w1.s with heap:=H2}⟩ w1.h.objs.size:=gu (s:={w1.s with heap:=H2}) X1.t (k1.trans k2) nT (l2.elim fun n e=>⟨_,e⟩)
 have pC:Pv c ⟨w1.F,w1.a,{w1.s with heap:=H2}⟩ H1.objs.size:=gu (s:={w1.s with heap:=H2}) X1.t (k1.trans k2) nC (hns.imp fun o q=>q.elim fun es q=>q.elim fun ep q=>q.1)
 obtain⟨new,xb,Sb,zn,oth⟩:=sr sc.names ⟨w1.F,w1.a,{w1.s with heap:=H2}⟩ μ1 cl nd Sa
 rw[show Wd.h ⟨w1.F,w1.a,{w1.s with heap:=H2}⟩=H2 from rfl,z2] at zn oth
 have hnl:(pick .cell sc).length=new.length:=zn.len
 have kc:Le H2 (pushCells H2 sc.names):=pushCells_keeps sc.names H2
 have nop:∀b∈pv,b∉([]:List Addr):=fun b m q=>nomatch q
 have pvn:∀{T},w1.h.get? T=none->T∉pv:=fun e q=>(hp _ q).l.ne e
 have st:=xa.trans xb
 refine vh (qn (hW c te ee ie es sc pos ⟨b.A,inner sc b.ct,Ds sc (cellsFrom (H1.objs.size+1) sc.names cl) H1.objs.size b.env⟩ ⟨w1.F,w1.a++new,{w1.s with heap:=pushCells H2 sc.names}⟩ tt I pv w1.h.objs.size [] [] G he hg hi ht ⟨NP X1.s hsc _ _,⟨List.length_replicate,?_,xb.pv nofun pC,?_⟩,hnl▸Sb⟩
  (pvn nC) (It.step st nop) ⟨l2.imp fun n e=>kc _ _ e,rfl,xb.pv nofun pT,pvn nT,ne.symm⟩ (by rw[List.length_nil,Nat.zero_add];exact hz)) fun f s q=>?_) (hs b.A _ [] _ X1.s.handled st nop Sb)
 ·exact⟨fun x=>none,hns.at' (fun o e=>kc _ _ e),fun i x v e1 e2=>(zx (fr:=fr) e2).elim⟩
 ·refine Z.append (Z.of (by rw[TN,List.length_range]) fun i x j e1 e2=>?_) (Z.imp (fun x hx j q=>?_) (ri X1 hf hm))
  ·obtain⟨p,e3,e4,e5⟩:=zn.get e1
   have hj:j=μ1.length+i:=by
    rw[List.getElem?_map,List.getElem?_range (List.getElem?_eq_some_iff.mp e1).1] at e2
    exact(Option.some.inj e2).symm
   refine⟨p.2,?_,e5⟩
   rw[hj,<-X1.t.len,List.getElem?_append_right (Nat.le_add_right _ _),Nat.add_sub_cancel_left,e3]
   exact congrArg some (Prod.ext e4 rfl)
  ·obtain⟨b',e1,e2⟩:=q
   refine⟨b',Pr.app _ _ _ e1,?_⟩
   have hm:(x,NameKind.free)∈sc.names:=bJ.mp hx
   exact(oth x fun q=>by have z:=(ja nd q).symm.trans (ja nd hx);exact nomatch Option.some.inj z).trans (hcl x b' hm e2)
 ·obtain⟨w5,rfl,x5,zs,ds,μ2,S5,ac,hn,q⟩:=q
  exact k _ _ f w5 zs ds μ2 (st.up.trans x5) S5 ac.l ac.d hn.1 ac.p hn.2 ne nT nC q
end
section
@[elab_as_elim]theorem CZ{k:Expr->Expr->List Expr->Bool}{P:List Comprehension->Prop}(l:List Comprehension)(f:∀t i es,k t i es=true->P [⟨t,i,es,0⟩])(h:NL l k=true):P l:=by
 unfold NL at h
 split at h
 ·exact f _ _ _ h
 ·exact nf h
theorem Bc{g:Gt}{it:It}{tg:Tg}{ct:Ct}{te:Expr}(h:(!(jo it)||isTup tg)=true)(hg:cG g tg ct te=true)(e:jo it=true):tE te (fun l=>true)=true:=by
 rw[e] at h
 cases tg with
 |tup ts=>exact je te (fun l n p h=>rfl) hg
 |_=>exact nf h
theorem Dd(ee te ie:Expr)(es:List Expr)(sc:Scope)(pos:Pos)(env:Env):eval (.ListComp ee [⟨te,ie,es,0⟩] sc pos) env=comprehension (.ListComp ee [⟨te,ie,es,0⟩] sc pos) sc env (firstIterPos [⟨te,ie,es,0⟩] pos) (newList []) false (eval ie env):=rfl
theorem E_(ee te ie:Expr)(es:List Expr)(sc:Scope)(pos:Pos)(env:Env)(U:Value->Sem Unit):evalThenUse (.ListComp ee [⟨te,ie,es,0⟩] sc pos) env U=(do let _<-comprehension (.ListComp ee [⟨te,ie,es,0⟩] sc pos) sc env (firstIterPos [⟨te,ie,es,0⟩] pos) (newList []) false (eval ie env) (some U)):=rfl
section
variable{c:Cx}{n:Nat}{b:Bk}{fr:Fr}{w w' w1 w5:Wd}{μ μ1 μ2:Mu}{A:Around}{K:KV}{L:List Addr}
theorem Step.none(x:Step c [] w w'){T:Addr}(e:w'.h.get? T=Option.none):w.h.get? T=Option.none:=Option.eq_none_iff_forall_ne_some.mpr fun o q=>(x.live T ⟨o,q⟩ nofun).ne e
theorem xk(G:Good c)(X:fk c n b fr w μ){elt:Ex}{tg:Tg}{it:It}{ifs:List Ts}{m:Bool}{nl nc:Nat}{free:List Nat}{ee te ie:Expr}{es:List Expr}{sc:Scope}{pos:Pos}{use:Option (Value->Sem Unit)}{Q:Value->Shared->Prop}(ihi:SI c n it)
  (h:(tc sc&&cI c.g it b.ct ie&&cE c.g elt (inner sc b.ct) ee&&cG c.g tg (inner sc b.ct) te&&LF c.g ifs (inner sc b.ct) es&&frees b.ct (pick .free sc) free&&(!(jo it)||isTup tg)&&(nl==(pick .local sc).length)&&(nc==(pick .cell sc).length))=true)
  (q:eI n it fr μ (DO n m elt tg ifs nl nc (free.mapM (fr.cs[·]?)) K))
  (k:∀T C f w5 w1 zs ds pv μ1 μ2,Step c [] w w1->(∀b∈pv,w.h.get? b=Option.none)->Sat c w1 μ1->Step c (C::T::pv) w1 w5->Sat c w5 μ2->w5.h.PlainList T (zs:List Value).toArray->jm c w5.F ds zs->(∃m,w5.h.Ns C m)->Pv c w5 T->Pv c w5 C->C≠T->w1.h.get? T=Option.none->w1.h.get? C=Option.none->cond m (AG K ds μ2) (Gf μ1 K ds μ2)->Lr c.M b.A use Q (.ref T) C f w5.s):
  wA c.M b.A (comprehension (.ListComp ee [⟨te,ie,es,0⟩] sc pos) sc b.env (firstIterPos [⟨te,ie,es,0⟩] pos) (newList []) false (eval ie b.env) use) Q w.s:=by
 obtain⟨⟨⟨⟨⟨⟨⟨⟨h1,h2⟩,h3⟩,h4⟩,h5⟩,h6⟩,h7⟩,h8⟩,h9⟩:(((((((_/\_)/\_)/\_)/\_)/\_)/\_)/\_)/\_:=(a2 h).imp (fun h=>(a2 h).imp (fun h=>(a2 h).imp (fun h=>(a2 h).imp (fun h=>(a2 h).imp (fun h=>(a2 h).imp (fun h=>(a2 h).imp a2 id) id) id) id) id) id) id
 obtain⟨g1,g2,g3,nd,g5⟩:=rt h1
 have hfr:=rk h6
 obtain⟨cl,hclos,hcl⟩:=EZ sc b.env nd fun x hx=>(hfr.get (List.getElem?_of_mem (bJ.mpr hx)).choose_spec).elim fun j e=>(X.d.cells.get e.2).elim fun k' q=>q.2.elim fun b' q=>⟨b',q.2⟩
 refine IK rfl hclos g1 (fun x hx e=>nH nd (e▸hx)) (aG (ihi ie b fr w μ _ (jo it) h2 id X q) fun u s q=>?_)
 obtain⟨w0,rfl,x0,hfold,q⟩:=q
 refine⟨hfold b.env,aG q fun u s q=>?_⟩
 obtain⟨w1,rfl,x1,I,pv,items,g,μ1,rfl,S1,hp,hg,It,q,hs⟩:=q
 unfold DO at q
 obtain⟨cs,hm,hz,q⟩:=iC q
 cases eq_of_beq h8
 cases eq_of_beq h9
 have x01:=x0.trans x1
 have X1:=X.step x01 S1
 cases m with
 |false=>exact ug G X1 h1 h3 h4 h5 (Bc h7 h4) h6 hm hcl (fun b hb=>(hp b hb).1) It hs hz q fun T C f w5 zs ds μ2 y1 y2 y3 y4 y5 y6 y7 y8 y9 y10 y11=>k T C f w5 w1 zs ds pv μ1 μ2 x01 (fun b hb=>(hp b hb).2) S1 y1 y2 y3 y4 y5 y6 y7 y8 y9 y10 y11
 |true=>
  have q:(pick .cell sc).length=0/\wC n elt tg ifs items g ⟨List.replicate (pick .local sc).length none,cs⟩ μ1 (AG K):=q
  refine ug G X1 h1 h3 h4 h5 (Bc h7 h4) h6 hm hcl (fun b hb=>(hp b hb).1) It hs hz (KD:=AG K) ?_ fun T C f w5 zs ds μ2 y1 y2 y3 y4 y5 y6 y7 y8 y9 y10 y11=>k T C f w5 w1 zs ds pv μ1 μ2 x01 (fun b hb=>(hp b hb).2) S1 y1 y2 y3 y4 y5 y6 y7 y8 y9 y10 y11
  rw[q.1]
  show wC n elt tg ifs items g ⟨_,cs⟩ (μ1++[]) (AG K)
  rw[List.append_nil]
  exact q.2
theorem uU(G:Good c)(m:Bool)(elt:Ex)(tg:Tg)(it:It)(ifs:List Ts)(nl nc:Nat)(free:List Nat)(ihi:SI c n it):SE c n (.comp m elt tg it ifs nl nc free):=by
 refine⟨fun e b fr w μ K hc X q=>qw e (fun ee gs sc pos h=>CZ gs (fun te ie es h=>?_) h) hc,nf,fun z e b fr w μ K U KF hc X q hU=>qw e (fun ee gs sc pos h=>CZ gs (fun te ie es h=>?_) h) hc⟩
 ·rw[Dd]
  refine xk G X ihi h q fun T C f w5 w1 zs ds pv μ1 μ2 x01 pn S1 x5 S5 hl d hn pT pC ne nT nC q=>?_
  obtain⟨mm,hn⟩:=hn
  refine⟨mm,hn,fun h' hs=>?_⟩
  have kC:=jQ hs
  have nTC:T∉[C]:=fun q=>ne (List.mem_singleton.mp q).symm
  have x6:Step c [C] w5 ⟨w5.F,w5.a,{w5.s with heap:=h'}⟩:=Step.of (s:={w5.s with heap:=h'}) rfl rfl kC
  have S6:Sat c ⟨w5.F,w5.a,{w5.s with heap:=h'}⟩ μ2:=S5.jx (s:={w5.s with heap:=h'}) kC (eW pC)
  obtain⟨w6,e6,x7,q,pk⟩:=conv (x5.trans (x6.more fun b m=>List.mem_singleton.mp m▸.head _)) S1 S6 (hl.imp fun nn e=>kC _ _ e nTC) d (x6.pv nTC pT) nT q
  refine⟨w6,e6,(x01.up.trans x7).cut fun b m=>.inr ?_,q⟩
  exact(List.mem_cons.mp m).elim (fun q=>q▸x01.none nC) fun m=>(List.mem_cons.mp m).elim (fun q=>q▸x01.none nT) (pn b)
 ·rw[E_]
  refine aj (aG (xk (use:=some U) (Q:=fun d s=>∃w',w'.s=s/\Step c [b.env.locals] w w'/\PF c n b KF w') G X ihi h q fun T C f w5 w1 zs ds pv μ1 μ2 x01 pn S1 x5 S5 hl d hn pT pC ne nT nC q=>?_) fun d s q=>aH q)
  obtain⟨w6,e6,x6,q,pk⟩:=conv x5 S1 S5 hl d pT nT q
  have x06:Step c [] w w6:=(x01.up.trans x6).cut fun b m=>.inr ((List.mem_cons.mp m).elim (fun q=>q▸x01.none nC) fun m=>(List.mem_cons.mp m).elim (fun q=>q▸x01.none nT) (pn b))
  have nL:C≠b.env.locals:=fun e=>X.d.pv.l.ne (e▸x01.none nC)
  obtain⟨v,μ6,S6,C6,q⟩:=q
  refine e6▸aG (hU (.ref T) w6 v μ6 (X.step x06 S6) C6 q) fun d s q=>?_
  obtain⟨w7,rfl,x7,fr7,μ7,X7,q⟩:=q
  obtain⟨mm,hn⟩:=hn
  have nCL:C∉[b.env.locals]:=fun q=>nL (List.mem_singleton.mp q)
  have pC7:=x7.pv nCL (pk C pC ne)
  rw[<-show w6.h=w5.h from congrArg Shared.heap e6] at hn
  refine⟨mm,hn.at' fun o e=>x7.jx (pk C pC ne) nCL e,fun h' hs=>?_⟩
  have kC:=jQ hs
  have x8:Step c [C] w7 ⟨w7.F,w7.a,{w7.s with heap:=h'}⟩:=Step.of (s:={w7.s with heap:=h'}) rfl rfl kC
  refine⟨⟨w7.F,w7.a,{w7.s with heap:=h'}⟩,rfl,?_,fr7,μ7,⟨X7.s,X7.d.step x8 fun q=>nL (List.mem_singleton.mp q).symm,X7.t.jx (s:={w7.s with heap:=h'}) kC (eW pC7)⟩,q⟩
  exact(x06.up.trans ((x7.more fun b m=>List.mem_append_left [C] m).trans (x8.more fun b m=>List.mem_append_right _ m))).cut fun b m=>(List.mem_append.mp m).imp id fun m=>by rw[List.mem_singleton.mp m];exact x01.none nC
end
end
section
variable{c:Cx}{n:Nat}{b:Bk}{fr:Fr}{w w':Wd}{μ:Mu}{A:Around}{K:KV}
theorem JE{l:List zU}{f:zU->Addr}(h:(l.map f).Nodup){a b:zU}(ha:a∈l)(hb:b∈l)(e:f a=f b):a=b:=by
 induction l with
 |nil=>cases ha
 |cons x l ih=>
  have h:=List.nodup_cons.mp h
  exact(List.mem_cons.mp ha).elim (fun qa=>(List.mem_cons.mp hb).elim (fun qb=>qa.trans qb.symm) fun qb=>absurd (List.mem_map.mpr ⟨b,qb,e.symm.trans (congrArg f qa)⟩) h.1)
   fun qa=>(List.mem_cons.mp hb).elim (fun qb=>absurd (List.mem_map.mpr ⟨a,qa,e.trans (congrArg f qb)⟩) h.1) fun qb=>ih h.2 qa qb
theorem Ja{s:Shared}(S:Sat c w μ)(G:Good c){li:zU}(hli:li∈c.zq){c':Addr}{oc:Obj}(hg:s.gens=w.s.gens)(hos:s.os=w.s.os)(hx:Heap.ExtBut li.P w.h s.heap)(hc':w.h.get? c'=none)(ho:s.heap.get? c'=some oc)(hrec:s.heap.CodeRec (.ref c') li.qual)
  (hP:s.heap.get? li.P=some (tabObj #[rawInt li.pos.line,rawInt li.pos.col,.ref c'])):∃F',Step c [] w ⟨F',w.a,s⟩/\Sat c ⟨F',w.a,s⟩ μ/\F'.CodeRec (.ref c') li.qual:=by
 obtain⟨fP,ps,gP,tP⟩:=S.tab li hli
 have hPt:li.P∈c.tb:=List.mem_map.mpr ⟨li,hli,rfl⟩
 have kf:Le w.F s.heap:=fun b o e=>hx b o (fun r=>cF (fP.symm.trans (r▸e))) (S.sub _ _ e)
 obtain⟨F',g,dn,gc,on⟩:∃F',Le w.F F'/\(∀b,b≠c'->w.F.get? b=none->F'.get? b=none)/\F'.get? c'=some oc/\Le F' s.heap:=⟨only s.heap (fun a=>(∃o',w.F.get? a=some o')\/a=c'),fun b o e=>eJ.mpr ⟨.inl ⟨o,e⟩,kf _ _ e⟩,
  fun b hb e=>Option.eq_none_iff_forall_ne_some.mpr fun o q=>(eJ.mp q).1.elim (fun q=>q.elim fun o' e'=>cF (e.symm.trans e')) hb,eJ.mpr ⟨.inr rfl,ho⟩,fun b o e=>(eJ.mp e).2⟩
 have nc:∀{b},Al w.h b->b≠c':=fun x e=>x.ne (e▸hc')
 have ko:∀b∈w.a.own,∀o,w.h.get? b=some o->s.heap.get? b=some o:=fun b hb o e=>hx b o (fun r=>(S.own b hb).2.2 (r▸hPt)) e
 have rc:F'.CodeRec (.ref c') li.qual:=by
  obtain⟨c2,o2,vs,tq,e1,e2,e3,e4⟩:=hrec
  cases e1
  cases ho.symm.trans e2
  exact⟨c',oc,vs,tq,rfl,gc,e3,e4⟩
 refine⟨_,⟨hg,hos,g,fun b l d e=>dn b (nc l) e,lD,fun b o e h1 h2 d=>hx b o (fun r=>h2 (r▸hPt)) e,fun b l d=>(Classical.em (b=li.P)).elim (fun q=>q▸⟨_,hP⟩) fun q=>l.imp fun o e=>hx b o q e⟩,⟨S.base.trans g,on,S.len,fun i p m e1 e2=>?_,fun b hb=>?_,S.nd,fun lj hlj=>?_⟩,rc⟩
 ·exact((S.mo i p m e1 e2).at (ko _ (List.mem_map.mpr ⟨p,List.mem_of_getElem? e1,rfl⟩))).grow g .rfl
 ·have q:=S.own b hb
  exact⟨dn b (nc q.2.1) q.1,q.2.1.imp fun o e=>ko b hb o e,q.2.2⟩
 ·obtain⟨a1,ps2,a2,a3⟩:=S.tab lj hlj
  have hj:=nc ⟨_,a2⟩
  by_cases e:lj.P=li.P
  ·cases JE G.nd hlj hli e
   exact⟨dn _ hj a1,_,hP,.inr ⟨c',rfl,rc⟩⟩
  ·exact⟨dn _ hj a1,ps2,hx _ _ e a2,a3.imp id fun q=>q.imp fun b q=>⟨q.1,q.2.keeps g⟩⟩
theorem Ge{p:Program}{loose:List Str}{mean:ExcName->Option Value}{mg mb:Str->Option Value}{P:Addr}(T:Top p loose mean mg mb c.hB)(S:Sat c w μ)(hP:w.F.get? P=none):w.h.BuiltinsAt mg P:=by
 obtain⟨bm,ob,b1,b2,b3,b4,b5,b6⟩:=T.bmain
 refine⟨bm,ob,b1,b2,?_,?_,S.sub _ _ (S.base _ _ b3),b4,b5,b6⟩
 ·rintro rfl
  obtain⟨o,es,ep,ho,hd,h⟩:=T.g
  cases ho.symm.trans b3
  exact nomatch hd.symm.trans b6
 ·rintro rfl
  exact cF (hP.symm.trans (S.base _ _ b3))
theorem Ou{p:Program}{loose:List Str}{mean:ExcName->Option Value}{mg mb:Str->Option Value}{P:Addr}(T:Top p loose mean mg mb c.hB)(S:Sat c w μ)(hP:w.F.get? P=none):mainGlobals≠P:=by
 rintro rfl
 obtain⟨o,es,ep,ho,h⟩:=T.g
 exact cF (hP.symm.trans (S.base _ _ ho))
theorem Eu{a:Arguments}(h:noArgs a=true):a=⟨[],[],none,[],[],none,[]⟩:=by
 obtain⟨x1,x2,x3,x4,x5,x6,x7⟩:=a
 unfold noArgs at h
 obtain⟨⟨⟨⟨⟨⟨h1,h2⟩,h3⟩,h4⟩,h5⟩,h6⟩,h7⟩:(((((_/\_)/\_)/\_)/\_)/\_)/\_:=(a2 h).imp (fun h=>(a2 h).imp (fun h=>(a2 h).imp (fun h=>(a2 h).imp (fun h=>(a2 h).imp a2 id) id) id) id) id
 cases List.isEmpty_iff.mp h1;cases List.isEmpty_iff.mp h2;cases Option.isNone_iff_eq_none.mp h3;cases List.isEmpty_iff.mp h4;cases List.isEmpty_iff.mp h5;cases Option.isNone_iff_eq_none.mp h6;cases List.isEmpty_iff.mp h7
 rfl
theorem xR{cl:List (Str×Addr)}{e:Expr}{sc:Scope}{pm cdv ctv:Value}{qual:Str}{j:Nat}{cs:List Nat}(S:Sat c w μ)(hr:w.F.CodeRec cdv qual)(hl:NF c j e sc)(hz:Z (IC w.a cl) (pick .free sc) cs)(q:K (.lam j cs) μ):
  ∃w':Wd,w'.s={w.s with heap:=w.h.push {cls:=.type "function",data:=.func (kla_fn "<lambda>" qual ⟨[],[],none,[],[],none,[]⟩ e sc cl pm cdv ctv)}}/\Step c [] w w'/\PK c K (.ref w.h.objs.size) w':=by
 obtain⟨F2,f1,st,S2⟩:=j7 S {cls:=.type "function",data:=.func (kla_fn "<lambda>" qual ⟨[],[],none,[],[],none,[]⟩ e sc cl pm cdv ctv)} rfl
 exact⟨_,rfl,st,.of (v:=.lam j cs) S2 ⟨_,cl,e,sc,rfl,⟨pm,cdv,ctv,qual,f1,hr.keeps st.grow⟩,hl,hz⟩ q⟩
theorem C7(G:Good c)(j:Nat)(free:List Nat):SE c n (.lam j free):=.of rfl rfl fun e b fr w μ K hc X q=>K0 e (fun a eb sc pos h=>by
 obtain⟨⟨⟨⟨⟨⟨h1,h2⟩,h3⟩,h4⟩,h5⟩,h6⟩,h7⟩:(((((_/\_)/\_)/\_)/\_)/\_)/\_:=(a2 h).imp (fun h=>(a2 h).imp (fun h=>(a2 h).imp (fun h=>(a2 h).imp (fun h=>(a2 h).imp a2 id) id) id) id) id
 cases Eu h3
 obtain⟨cs,hm,q⟩:=iC q
 obtain⟨li,hli,l1,l2,l3⟩:=G.lam _ _ h1
 have hcode:b.env.code=.ref li.c:=X.s.code.elim (fun q=>nomatch l1.symm.trans q) fun q=>q.trans l1
 obtain⟨pp,loose,mean,mg,mb,T⟩:=G.top
 have hfr:=rk h6
 obtain⟨g1,g2,g3,nd,g5⟩:=rt h2
 obtain⟨cl,hclos,hcl⟩:=EZ sc b.env nd fun x hx=>(hfr.get (List.getElem?_of_mem (bJ.mpr hx)).choose_spec).elim fun j e=>(X.d.cells.get e.2).elim fun k' q=>q.2.elim fun b' q=>⟨b',q.2⟩
 have hz:Z (IC w.a cl) (pick .free sc) cs:=Z.imp (fun x hx k q=>q.imp fun b' q=>⟨q.1,hcl x b' (bJ.mp hx) q.2⟩) (ri X h6 hm)
 have hL:NF c j eb sc:=⟨h2,List.isEmpty_iff.mp h4,h7⟩
 have kb:=X.t.base.trans X.t.sub
 obtain⟨fP,ps,gP,tP⟩:=X.t.tab li hli
 have hqual:=X.s.qual li hli l1
 refine ij (kla_eval rfl ?_)
 rcases tP with rfl|⟨c',rfl,hrec⟩
 ·refine kla_makeFunction (mg:=mg) hclos X.s.glob (T.g.keeps kb) hcode ((G.hd li hli).keeps kb) gP trivial rfl (Ou T X.t fP) (Ge T X.t fP) fun c' ctv h' tk hx hge hlt hrec htab=>?_
  obtain⟨c2,oc,vs,tq,e1,e2,e3,e4⟩:=id hrec
  cases e1
  obtain⟨F1,st1,S1,rc⟩:=Ja (s:={w.s with heap:=h',toks:=tk}) X.t G hli rfl rfl hx (fh hge) e2 (hqual▸hrec) (by rw[<-l2,<-l3];exact htab)
  obtain⟨w',e,st2,q⟩:=xR (e:=eb) (pm:=(mg "__name__").getD .none) (ctv:=ctv) S1 (hqual▸rc) hL hz q
  exact⟨w',e,st1.trans st2,q⟩
 ·refine kla_makeFunctionHit (mg:=mg) (cv:=.ref c') hclos X.s.glob (T.g.keeps kb) hcode ((G.hd li hli).keeps kb) gP trivial (by simp[codeAmong,rawInt,l2,l3]) (Ge T X.t fP) fun ctv h' tk hk hz'=>?_
  have st1:Step c [] w ⟨w.F,w.a,{w.s with heap:=h',toks:=tk}⟩:=Step.keeps (s:={w.s with heap:=h',toks:=tk}) rfl rfl hk
  obtain⟨w',e,st2,q⟩:=xR (e:=eb) (pm:=(mg "__name__").getD .none) (ctv:=ctv) (X.t.keep (s:={w.s with heap:=h',toks:=tk}) hk) (hqual▸hrec) hL hz q
  exact⟨w',e,st1.trans st2,q⟩) hc
end
section
variable{c:Cx}{n:Nat}{b:Bk}{fr:Fr}{w w':Wd}{μ:Mu}{A:Around}{K:KF}{v:V}{u:Value}
def SA(c:Cx)(n:Nat)(t:Tg):Prop:=∀e b fr w μ v u K,cG c.g t b.ct e=true->fk c n b fr w μ->CV c w.F w.a v u->eA n t v fr μ K->WP c [b.env.locals] b.A (assign e b.env u) w (fun d=>PF c n b K)
def L2(c:Cx)(n:Nat)(ts:List Tg):Prop:=∀es b fr w μ vs us K,Oc c.g ts b.ct es=true->fk c n b fr w μ->fC c w.F w.a vs us->Pq n ts vs fr μ K->WP c [b.env.locals] b.A (assignInOrder ((assignEach es b.env).map (·.2)) us) w (fun d=>PF c n b K)
theorem kn{i:Nat}{x:Str}(hi:b.ct.locs[i]? =some x)(X:fk c n b fr w μ)(C:CV c w.F w.a v u)(q:K ⟨du fr.vs i v,fr.cs⟩ μ):WP c [b.env.locals] b.A (storeName b.env x u) w (fun d=>PF c n b K):=by
 obtain⟨m,hn,hv⟩:=X.d.ns
 rw[fX] at q
 refine ij (wpAny_storeName_local (X.s.kl x (List.mem_of_getElem? hi)) hn (fun h' hn' hs=>?_) (by rw[X.s.kind];rfl))
 have kp:=jQ hs
 have x1:Step c [b.env.locals] w ⟨w.F,w.a,{w.s with heap:=h',toks:=w.s.toks+1}⟩:=Step.of (s:={w.s with heap:=h',toks:=w.s.toks+1}) rfl rfl kp
 refine⟨⟨w.F,w.a,{w.s with heap:=h',toks:=w.s.toks+1}⟩,rfl,x1,⟨fr.vs.set i (some v),fr.cs⟩,μ,⟨X.s,⟨List.length_set.trans X.d.len,⟨_,hn',fun j y z h1 h2=>?_⟩,⟨X.d.pv.f,X.d.pv.o,X.d.pv.t,hn'.imp fun o q=>q.elim fun es q=>q.elim fun ep q=>q.1⟩,X.d.cells⟩,X.t.jx (s:={w.s with heap:=h',toks:=w.s.toks+1}) kp (eW X.d.pv)⟩,q⟩
 by_cases hj:i=j
 ·cases hj
  cases hi.symm.trans h1
  rw[List.getElem?_set_self (X.d.len▸(List.getElem?_eq_some_iff.mp hi).1)] at h2
  cases h2
  exact⟨u,if_pos rfl,C⟩
 ·rw[List.getElem?_set_ne hj] at h2
  refine(hv j y z h1 h2).imp fun u' q=>⟨(if_neg ?_).trans q.1,q.2⟩
  rintro rfl
  exact hj ((List.getElem?_inj (List.getElem?_eq_some_iff.mp hi).1 X.s.Q4).mp (hi.trans h1.symm))
theorem Bh{M:Model}{E:Value->Shared->Prop}{s:Shared}{env:Env}{name:Str}{c:Addr}{v₀:Option Value}{v:Value}{Q:Unit->Shared->Prop}(hk:env.scope.kind=.function)(hl:env.kindOf name=some .free)
  (hc:env.cells.lookup name=some c) (hv:s.heap.IsCell c v₀) (h:∀h',h'.IsCell c (some v)->Heap.SameBut c s.heap h'->Q () {s with heap:=h'}):wpAny M A (storeName env name v) Q E s:=by
 unfold storeName
 simp only[hl,hk]
 exact wpAny_bind (wpAny_cellOf hc (wpAny_cellSet hv h))
theorem xM{j k:Nat}{x:Str}(hi:b.ct.cells[j]? =some x)(hj:fr.cs[j]? =some k)(X:fk c n b fr w μ)(C:CV c w.F w.a v u)(q:iy μ k (R8 v fr k μ K)):WP c [b.env.locals] b.A (storeName b.env x u) w (fun d=>PF c n b K):=by
 obtain⟨k',e1,a,e2,e3⟩:=X.d.cells.get hi
 cases hj.symm.trans e1
 obtain⟨m,hm,q⟩:=q
 have M:=X.t.mo k _ m e2 hm
 revert M
 refine lY m (fun l=>TO) (fun l=>TO) (fun l=>TO) (fun d p=>TO) (fun o q M=>?_) q
 obtain⟨v₀,hcell,h⟩:=M.2
 have q:=qO q
 have fin:∀h',h'.IsCell a (some u)->Heap.SameBut a w.h h'->∃w',w'.s={w.s with heap:=h'}/\Step c [b.env.locals] w w'/\PF c n b K w':=fun h' hc hs=>by
  obtain⟨st,S'⟩:=set_own (s:={w.s with heap:=h'}) (p:=(a,a)) (m:=.cell (some v)) (L:=[b.env.locals]) X.t e2 hs (hc.imp fun o q=>q.1) ⟨rfl,some u,hc,fun y e=>Option.some.inj e▸⟨u,rfl,C⟩⟩ rfl rfl
  have st0:Step c [] w ⟨w.F,w.a,{w.s with heap:=h'}⟩:=(set_own (s:={w.s with heap:=h'}) (p:=(a,a)) (m:=.cell (some v)) (L:=[]) X.t e2 hs (hc.imp fun o q=>q.1) ⟨rfl,some u,hc,fun y e=>Option.some.inj e▸⟨u,rfl,C⟩⟩ rfl rfl).1
  exact⟨_,rfl,st,fr,_,X.step st0 S',q⟩
 rcases X.s.kc x (List.mem_of_getElem? hi)with z|z
 ·exact ij (wpAny_storeName_cell X.s.kind z e3 hcell fin)
 ·exact ij (Bh X.s.kind z e3 hcell fin)
theorem jE(x:Str)(p:Pos)(env:Env)(u:Value):assign (.Name x p) env u=(do standAt p;bindName env x u):=rfl
theorem Jr(i:Nat):SA c n (.lv i):=fun e b fr w μ v u K hc X C q=>dH e (fun x p h=>by
 rw[jE]
 have q:cond (iE fr.vs i) (K ⟨du fr.vs i v,fr.cs⟩ μ) False:=q
 cases h':iE fr.vs i with
 |true=>rw[h'] at q;exact .bQ (fu (kn (eq_of_beq h) X C q))
 |false=>rw[h'] at q;exact q.elim) hc
theorem Jz(j:Nat):SA c n (.cv j):=fun e b fr w μ v u K hc X C q=>dH e (fun x p h=>by
 rw[jE]
 obtain⟨k,e1,q⟩:=BE q
 exact .bQ (fu (xM (eq_of_beq h) e1 X C q))) hc
theorem qf{g:Gt}{ct:Ct}{env:Env}(ts:List Tg):∀es,Oc g ts ct es=true->assignEach es env=es.map (fun e=>(false,assign e env))/\es.length=ts.length:=by
 induction ts with
 |nil=>exact fun es h=>List.isEmpty_iff.mp h▸⟨rfl,rfl⟩
 |cons t ts ih=>
  intro es h
  cases es with
  |nil=>exact nf h
  |cons e es=>
   obtain⟨h1,h2,h3⟩:=a3 h
   obtain⟨e1,e2⟩:=ih es h3
   refine⟨?_,congrArg Nat.succ e2⟩
   rw[List.map_cons,<-e1]
   cases e with
   |Starred a p=>exact nf h2
   |_=>rfl
theorem vj:L2 c n []:=fun es b fr w μ vs us K hc X C q=>by
 cases List.isEmpty_iff.mp hc
 revert C
 refine rj vs (fun q C=>?_) q
 cases C
 exact .pure ⟨fr,μ,X,q⟩
theorem qk(t:Tg)(ts:List Tg)(ih:SA c n t)(ihs:L2 c n ts):L2 c n (t::ts):=fun es b fr w μ vs us K hc X C q=>by
 cases es with
 |nil=>exact nf hc
 |cons e es=>
  obtain⟨h1,h2,h3⟩:=a3 hc
  cases vs with
  |nil=>exact q.elim
  |cons v vs=>
   obtain⟨u,us,rfl,C1,C2⟩:=C
   have e1:=(qf (env:=b.env) (t::ts) (e::es) hc).1
   have e2:=(qf (env:=b.env) ts es h3).1
   rw[e1]
   show WP c _ b.A (do holding us (assign e b.env u);assignInOrder ((es.map fun e=>(false,assign e b.env)).map (·.2)) us) w _
   rw[<-e2]
   refine .bind (.hold (ih e b fr w μ v u _ h1 X C1 q)) fun d w1 st q=>?_
   obtain⟨fr1,μ1,X1,q⟩:=q
   exact ihs es b fr1 w1 μ1 vs us K h3 X1 (st.P5 C2) q
end
section
variable{prog:Program}{w:World}{A:Around}{E:Value->Shared->Prop}{s:Shared}
theorem rq{it l:Addr}{items:Array Value}(hne:l≠it):∀(n i:Nat) (s:Shared) (Q:List Value->Shared->Prop),s.heap.IsListIter it l i->s.heap.IsList l items->i+n<=items.size->
  (∀h',h'.IsListIter it l (i+n)->Heap.SameBut it s.heap h'->Q ((items.toList.drop i).take n) {s with heap:=h'})->wpAny (model prog w) A (draw (.ref it) n) Q E s
 |0,i,s,Q,hit,_,_,hQ=>by
  show wpAny _ _ (pure []) Q E s
  exact wpAny_pure (by simpa using hQ s.heap hit (Heap.SameBut.refl ..))
 |n+1,i,s,Q,hit,ht,hle,hQ=>by
  have hlt:i<items.size:=by omega
  show wpAny _ _ (pyNext (.ref it)>>=_) Q E s
  refine wpAny_bind (wpAny_pyNext_list_item hit ht (x:=items[i]) (by simp[hlt]) fun h₁ hit₁ hs₁=>?_)
  refine wpAny_bind (wpAny_holding (rq hne n (i+1) _ _ hit₁ (ht.extBut hs₁.extBut hne) (by omega) fun h₂ hit₂ hs₂=>wpAny_pure ?_))
  have hd:items.toList.drop i=items[i]::items.toList.drop (i+1):=by simp[List.drop_eq_getElem_cons,hlt]
  have:=hQ h₂ (by rw[show i+(n+1)=i+1+n by omega];exact hit₂) (hs₁.trans hs₂)
  rw[hd,List.take_succ_cons] at this
  exact this
theorem vq(f:Array Value->Array Value)(items:Array Value)(n:Nat):∃n',Obj.mapSeq f ⟨.type "list",none,.seq items n,#[]⟩=⟨.type "list",none,.seq (f items) n',#[]⟩:=⟨_,rfl⟩
theorem tw{l:Addr}{items:Array Value}{k:Int}{t:Tok}{v:Value}{Q:Unit->Shared->Prop}(hl:s.heap.PlainList l items)
  (h0:0<=k) (hfit:k<2^63) (hn:k<items.size)
  (hQ:∀h',h'.PlainList l (items.setIfInBounds k.toNat v)->Heap.SameBut l s.heap h'->Q () {s with heap:=h'}):
  wpAny (model prog w) A (setItem (.ref l) (.int k t) v) Q E s:=by
 have hL:=hl.isList
 obtain⟨n,ho⟩:=id hl
 have hd:(⟨.type "list",none,.seq items n,#[]⟩:Obj).data=.seq items n:=rfl
 unfold setItem
 try with_reducible refine wpAny_holding ?_
 first|refine wpAny_bind (wpAny_pure ?_)|skip
 refine wpAny_bind (wpAny_sequenceKey hL.typeIs (by decide) ?_)
 refine wpAny_bind (PySem.wpAny_callSpecial?_slot (name:=Str.ofString "__setitem__") hL.typeIs slot_list_setitem
  (wpAny_call_entry slot_list_setitem hL.typeIs entry_list_setitem ?_ (args_list_setitem _ _ _)))
 show wpAny _ _ (Builtin.List.listSubscript? (.int k t)>>=_) _ _ s
 refine wpAny_bind (wpAny_listSubscript_int (fitsIndex_of h0 hfit) ?_)
 clear hfit
 obtain⟨j,rfl⟩:=Int.eq_ofNat_of_zero_le h0
 have hj:j<items.size:=by omega
 have hx':items[j]? =some items[j]:=Array.getElem?_eq_getElem hj
 show wpAny _ _ ((seqItemAt l j>>=fun r=>pure (r.map (j,·)))>>=_) _ _ s
 refine wpAny_bind (wpAny_bind (wpAny_seqItemAt ho hd (wpAny_pure ?_)))
 rw[hx']
 show wpAny _ _ (setSeqItemAt l j v>>=_) _ _ s
 obtain⟨n',hd'⟩:=vq (·.setIfInBounds j v) items n
 have hfin:(s.heap.update l (Obj.mapSeq (·.setIfInBounds j v))).PlainList l (items.setIfInBounds j v):=
  ⟨n',by rw[Heap.get?_update_self _ ho (by rw[hd'];rfl),hd']⟩
 refine wpAny_bind (wpAny_setSeqItemAt ho hd ?_)
 first
  |exact wpAny_bind (wpAny_pure (wpAny_pure ⟨.none,rfl,wpAny_pure (hQ _ hfin (Heap.SameBut.update ..))⟩))
  |exact wpAny_pure ⟨.none,rfl,wpAny_pure (hQ _ hfin (Heap.SameBut.update ..))⟩
theorem mH{t:Addr}{items:Array Value}{Q:List Value->Shared->Prop}(hh:A.handled=none)(ht:s.heap.IsList t items)
  (hQ:∀h',Heap.ExtBut s.heap.objs.size s.heap h'->Q items.toList {s with heap:=h'}):wpAny (model prog w) A (unpackItems (.ref t) items.size none) Q E s:=by
 have hlt:t≠s.heap.objs.size:=by obtain⟨o,ho,_⟩:=ht;exact Nat.ne_of_lt (Heap.lt_size ho)
 have hpush:∀o',(s.heap.push o').IsList t items:=fun o'=>let⟨o,ho,r⟩:=ht;⟨o,Heap.get?_push_of_some _ ho,r⟩
 unfold unpackItems
 refine wpAny_bind ?_
 ·unfold notIterableAtAll
  refine wpAny_bind (wpAny_specialOf ht.typeIs slot_list_iter.lookup ?_)
  refine wpAny_pure ?_
  simp only[Bool.false_eq_true,if_false]
  refine wpAny_bind (wpAny_holding (wpAny_pyIter_list ht ?_))
  refine wpAny_bind (wpAny_holding (rq hlt items.size 0 _ _ ⟨_,Heap.get?_push_size _ rfl,rfl,rfl⟩ (hpush _) (by omega) fun h₁ hit₁ hs₁=>?_))
  have hall:List.take items.size (List.drop 0 items.toList)=items.toList:=by
   rw[List.drop_zero];exact List.take_of_length_le (by simp)
  rw[hall]
  rw[if_neg (by simp)]
  have ht₁:h₁.IsList t items:=(hpush _).extBut hs₁.extBut hlt
  refine wpAny_bind (wpAny_holding (wpAny_pyNext_list_end hh hit₁ ht₁ (by simp) fun h₂ he₂=>?_))
  simp only[Option.isSome_none,Bool.false_eq_true,if_false]
  refine wpAny_pure (hQ h₂ fun b o hb e=>he₂ b o hb (hs₁.extBut b o hb (Heap.get?_push_of_some _ e)))
end
section
variable{c:Cx}{n:Nat}{b:Bk}{fr:Fr}{w w':Wd}{μ:Mu}{A:Around}{K:KF}{v:V}{u:Value}
theorem LC{F:Heap}{ads:lI}{l:List D}{us:List Value}(d:jm c F l us):fC c F ads (l.map .d) us:=Z.map.mpr d
theorem yi{Q:List V->Prop}(hh:A.handled=none)(S:Sat c w μ)(q:items v Q):CV c w.F w.a v u->∃vs,Q vs/\WP c [] A (unpackItems u vs.length none) w (fun us w'=>Sat c w' μ/\fC c w'.F w'.a vs us):=
 mZ v (fun d q=>cJ d TO (fun x=>TO) (fun x=>TO) (fun x=>TO) (fun x=>TO)
   (fun l q C=>by
    obtain⟨a,us,rfl,ht,d⟩:=cp.mp C
    refine⟨_,q,(by rw[TN,d.len];exact .P_ S (unpackItems_tuple hh (ht.keeps S.sub) fun h' he=>⟨rfl,rfl,fun b o hb=>he b o (Nat.ne_of_lt (Heap.lt_size hb)) hb,fun st S'=>⟨S',LC d⟩⟩))⟩)
   (fun l q C=>by
    obtain⟨a,us,rfl,ht,d⟩:=bf.mp C
    refine⟨_,q,(by rw[TN,d.len];exact .P_ S (mH hh (aE S.sub ht) fun h' he=>⟨rfl,rfl,fun b o hb=>he b o (Nat.ne_of_lt (Heap.lt_size hb)) hb,fun st S'=>⟨S',LC d⟩⟩))⟩)
   (fun x=>TO) q) (fun x=>TO) (fun x=>TO) (fun x=>TO) TO TO (fun x y=>TO)
  (fun l q C=>by
   obtain⟨a,us,rfl,ht,d⟩:=hZ.mp C
   refine⟨_,q,(by rw[d.len];exact .P_ S (unpackItems_tuple hh (ht.keeps S.sub) fun h' he=>⟨rfl,rfl,fun b o hb=>he b o (Nat.ne_of_lt (Heap.lt_size hb)) hb,fun st S'=>⟨S',d⟩⟩))⟩) q
theorem nZ(es:List Expr)(k:Nat)(p:Pos)(env:Env)(u:Value):assign (.Tuple es k p) env u=(do standAt p;unpack u (assignEach es env)):=assign_Tuple ..
theorem En{g:Gt}{ct:Ct}{env:Env}{ts:List Tg}{es:List Expr}(h:Oc g ts ct es=true)(u:Value):
  unpack u (assignEach es env)=(do let xs<-holding [u] (unpackItems u es.length none);assignInOrder ((assignEach es env).map (·.2)) xs):=by
 unfold unpack
 rw[(qf ts es h).1]
 have:((es.map fun e=>(false,assign e env)).findIdx? (·.1))=none:=List.findIdx?_eq_none_iff.mpr fun p hp=>(List.mem_map.mp hp).elim fun e q=>q.2▸rfl
 rw[this,TN]
theorem C4(ts:List Tg)(ih:L2 c n ts):SA c n (.tup ts):=fun e b fr w μ v u K hc X C q=>je e (fun es k p h=>by
 rw[nZ,En h]
 have q:items v fun l=>xi ts l (Pq n ts l fr μ K):=q
 obtain⟨vs,q,hu⟩:=yi (A:=b.A) X.s.handled X.t q C
 obtain⟨hl,q⟩:=yX ts vs q
 rw[(qf (env:=b.env) ts es h).2,hl]
 refine .bQ (.fO (.hold hu) fun us w1 st q'=>?_)
 exact ih es b fr w1 μ vs us K h (X.step st q'.1) q'.2 q) hc
theorem vN(G:Good c)(x:Ex)(a:At)(ih:SE c n x):SA c n (.attr x a):=fun e b fr w μ v u K hc X C q=>rP e (fun oe y p h=>by
 obtain⟨h1,h2⟩:=a2 h
 cases eq_of_beq h1
 rw[jG]
 cases a with
 |text=>exact q.elim
 |data=>exact q.elim
 | «at» =>
  revert C
  refine aB v (fun d q=>bC d (fun i q C=>?_) q) q
  obtain⟨t,rfl⟩:=C
  refine .bE X (.hold (ih.v oe b fr w μ _ h2 X q)) fun ov w1 z μ1 st X1 C1 q=>.bQ ?_
  revert C1
  refine iR z (fun k q C1=>?_) q
  obtain⟨d,j,aw,x,e,rfl,⟨ow,e1,g1,g2⟩,q⟩:=MN X1.t q C1
  refine .fO (P:=fun d=>PF c n b K) (.hold ?_) fun d w2 st2 q=>.release q
  show WP c [] b.A (setAttr (.ref aw) (Str.ofString "at") (.int i t)) w1 _
  refine ij (set_plain (ud G X1.t) (qs g1 g2) G.wire.set (zi (s:={w1.s with toks:=w1.s.toks+1}) (ud G X1.t) g1 g2 G.wire.over G.wa.take G.wire.hd (by rw[GY];rfl) ?_ fun h' q1 q2=>?_))
  ·rw[Fo];show 2<=1000;decide
  ·rw[Fo] at q1
   obtain⟨M,z⟩:=X1.t.mo k _ _ e1 e
   obtain⟨st',S'⟩:=set_own (s:={w1.s with heap:=h',toks:=w1.s.toks+1+1}) (p:=(aw,ow)) (m:=.wire d i) (L:=[]) X1.t e1 q2 ⟨_,q1⟩ ⟨M,(x.1,x.2.1,putN (Str.ofString "at") [⟨x.1,.str (Str.ofString "data") x.2.2.2.1,.bytes d.toArray x.2.2.2.2.1⟩,⟨x.2.1,.str (Str.ofString "at") x.2.2.2.2.2.1,.int j x.2.2.2.2.2.2⟩] x.2.2.1,x.2.2.2.1,x.2.2.2.2.1,x.2.2.2.2.2.1,t),q1⟩ rfl rfl
   exact⟨_,rfl,st',fr,_,X1.step st' S',qO q⟩) hc
theorem rG{g:Gt}{i:Ex}{ct:Ct}(o ie:Expr)(p:Pos)(env:Env)(u:Value)(h:cE g i ct ie=true):assign (.Subscript o ie p) env u=(do
  let ov<-holding [u] (eval o env)
  let iv<-holding [u,ov] (eval ie env)
  standAt p
  holding [u,ov,iv] (setItem ov iv u)
  release [u,ov,iv] []):=by
 cases ie with
 |Slice a b d p=>cases i<;>exact nf h
 |_=>rfl
theorem CX(o i:Ex)(ih:SE c n o)(ihi:SE c n i):SA c n (.sub o i):=fun e b fr w μ v u K hc X C q=>p7 e (fun oe ie p h=>by
 obtain⟨h1,h2⟩:=a2 h
 rw[rG _ _ _ _ _ h2]
 revert C
 refine aB v (fun d q C=>?_) q
 refine .bE X (.hold (ih.v oe b fr w μ _ h1 X q)) fun ov w1 z μ1 st X1 C1 q=>.bE X1 (.hold (ihi.v ie b fr w1 μ1 _ h2 X1 q)) fun iv w2 y μ2 st2 X2 C2 q=>.bQ ?_
 revert C2
 refine aB (P:=fun y=>CV c w2.F w2.a y iv->_) y (fun y q=>bC y (fun j q C2=>?_) q) q
 obtain⟨t,rfl⟩:=C2
 have C1:=st2.cv C1
 have Cu:=st2.cv (st.cv (v:=.d d) C)
 revert C1
 refine iR (P:=fun z=>CV c w2.F w2.a z ov->_) z (fun k q C1=>?_) q
 obtain⟨m,pp,e1,e2,rfl,M,q⟩:=tT X2.t q C1
 refine .fO (P:=fun d=>PF c n b K) (.hold ?_) fun d w2 st2 q=>.release q
 have fin:∀{m':aI} {xs:Array Value},pp.1=pp.2->w2.h.PlainList pp.2 xs->0<=j->j.toNat<xs.size->xs.size<=lim->(∀h',h'.PlainList pp.2 (xs.setIfInBounds j.toNat u)->MO c w2.F w2.a h' pp m')->lX k m' μ2 (PY K fr)->WP c [] b.A (setItem (.ref pp.1) (.int j t) u) w2 (fun d=>PF c n b K):=fun{m' xs} ep hl h0 hj hz hm q=>by
  rw[ep]
  refine ij (tw hl h0 (Int.lt_trans (by omega) (uO hz)) (by omega) fun h' q1 q2=>?_)
  obtain⟨st',S'⟩:=set_own (s:={w2.s with heap:=h'}) (p:=pp) (m:=m') (L:=[]) X2.t e2 q2 (q1.elim fun nn e=>⟨_,e⟩) (hm h' q1) rfl rfl
  exact⟨_,rfl,st',fr,_,X2.step st' S',qO q⟩
 revert M
 refine lY m (fun l q M=>?_) (fun l q M=>?_) (fun l=>TO) (fun d p=>TO) (fun l=>TO) q
 ·obtain⟨ep,vs,hl,dd⟩:=M
  refine fin (m':=.list (l.set j.toNat d)) ep hl q.1 (by rw[List.size_toArray,<-dd.len];exact q.2.1) (by rw[List.size_toArray,<-dd.len];exact q.2.2.1) (fun h' q1=>⟨ep,vs.set j.toNat u,by rw[List.setIfInBounds_toArray] at q1;exact q1,Z.set (R:=CD c w2.F) (a:=d) Cu dd j.toNat⟩) q.2.2.2
 ·obtain⟨ep,vs,hl,dd⟩:=M
  refine fin (m':=.gV (l.set j.toNat (.d d))) ep hl q.1 (by rw[List.size_toArray,<-dd.len];exact q.2.1) (by rw[List.size_toArray,<-dd.len];exact q.2.2.1) (fun h' q1=>⟨ep,vs.set j.toNat u,by rw[List.setIfInBounds_toArray] at q1;exact q1,Z.set (R:=CV c w2.F w2.a) (a:=.d d) Cu dd j.toNat⟩) q.2.2.2) hc
end
section
variable{c:Cx}{n:Nat}{b:Bk}{fr:Fr}{w w':Wd}{μ:Mu}{A:Around}{v:V}{u:Value}
def SS(c:Cx)(n:Nat)(s:St):Prop:=∀e b fr w μ K,cS c.g s b.ct e=true->fk c n b fr w μ->eS n s fr μ K->WP c [b.env.locals] b.A (exec e b.env) w (PX c n b K)
def Mb(c:Cx)(n:Nat)(ss:List St):Prop:=∀es b fr w μ K,FP c.g ss b.ct es=true->fk c n b fr w μ->aA n ss fr μ K->WP c [b.env.locals] b.A (execs es b.env) w (PX c n b K)
theorem CM{te e:Expr}{env:Env}(h:MJ te e=true):swappedStores [te] e env=pure none:=by
 cases te with
 |Tuple ts k p=>cases e with
  |Tuple vs k' p'=>
   have h:(!(ts.length==2||ts.length==3))=true:=h
   unfold swappedStores
   dsimp only
   rw[h]
   rfl
  |_=>rfl
 |List ts p=>exact nf h
 |_=>rfl
theorem Cb{te e:Expr}{line:Nat}{env:Env}:(RU e=true->swapsWith e (some te) line env=pure false)/\(BX e (fun a g s p=>true)=true->∃r,swapsWith e (some te) line env=pure r):=by
 refine⟨fun h=>?_,fun h=>qw e (fun a g s p h=>?_) h⟩
 ·cases e with
  |ListComp a g s p=>exact nf h
  |SetComp a g s p=>exact nf h
  |DictComp a a' g s p=>exact nf h
  |_=>rfl
 ·cases te with
  |Name x q=>exact⟨_,rfl⟩
  |_=>exact⟨_,rfl⟩
theorem Mh:SS c n .stop:=fun e b fr w μ K hc X q=>q.elim
theorem MH:SS c n .cont:=fun e b fr w μ K hc X q=>Jj e (fun p=>.bQ (.pure ⟨.cont,fr,μ,rfl,X,q⟩)) hc
theorem OC(x:Ex)(ih:SE c n x):SS c n (.ret x):=fun e b fr w μ K hc X q=>Km e (fun ve p h=>by
 rw[exec_Return_some]
 exact .bQ (.bE X (ih.v ve b fr w μ _ h X q) fun u w1 v μ1 st X1 C1 q=>.pure ⟨.ret v,fr,μ1,⟨u,rfl,C1⟩,X1,q⟩)) hc
theorem vT{ve:Expr}{p:Pos}{K:KS}(hx:qV ve (fun f l ks p=>true)=true)(hu:∀a,u≠.ref a)(X:fk c n b fr w μ)(q:K .next fr μ):WP c [b.env.locals] b.A (dropValue ve p u) w (PX c n b K):=by
 rw[dropValue_plain hu]
 exact .pure ⟨.next,fr,μ,rfl,X,q⟩
theorem Nh(x:Ex)(ih:SE c n x):SS c n (.expr x):=fun e b fr w μ K hc X q=>Jg e (fun ve p h=>by
 obtain⟨h1,h2⟩:=a2 h
 rw[exec_Expr (env:=b.env) _ _ (by unfold interactive;rw[X.s.kind];rfl) (j0 (P:=fun ve=>swapsWith ve none p.line b.env=pure false) ve (fun f l ks p h=>rfl) h2)]
 refine .bQ (.bE X (ih.v ve b fr w μ _ h1 X q) fun u w1 v μ1 st X1 C1 q=>?_)
 refine aB v (fun d q=>cJ d (fun q C=>?_) (fun x q C=>?_) (fun x=>TO) (fun x=>TO) (fun x q C=>?_) (fun x=>TO) (fun x=>TO) (fun x=>TO) q) q C1
 ·cases C;exact vT h2 nofun X1 q
 ·cases C;exact vT h2 nofun X1 q
 ·obtain⟨t,rfl⟩:=C;exact vT h2 nofun X1 q) hc
theorem Ra(t:Ts)(bs os:List St)(ih:ST c n t)(ihb:Mb c n bs)(iho:Mb c n os):SS c n (.aT t bs os):=fun e b fr w μ K hc X q=>M9 e (fun te be oe p h=>by
 obtain⟨h1,h2,h3⟩:=a3 h
 rw[exec_If]
 refine .bQ (.bB X (ih te b fr w μ _ h1 X q) fun v w1 μ1 st X1 q=>?_)
 cases v with
 |true=>exact ihb be b fr w1 μ1 K h2 X1 q
 |false=>exact iho oe b fr w1 μ1 K h3 X1 q) hc
theorem N'(i:Nat)(x:Ex)(ih:SE c n x):SS c n (.aug i x):=fun e b fr w μ K hc X q=>Kl e (fun te o xe p h=>by
 obtain⟨h1,h2,h3⟩:=a3 h
 cases eq_of_beq h1
 refine dH (P:=fun te=>WP c [b.env.locals] b.A (exec (.AugAssign te .Add xe p) b.env) w (PX c n b K)) te (fun y p' h=>?_) h2
 have hy:=eq_of_beq h
 obtain⟨v,e1,q⟩:=BU q
 obtain⟨m,hn,hv⟩:=X.d.ns
 obtain⟨u,e2,C⟩:=hv i y v hy e1
 rw[exec_AugAssign_Name]
 refine .bQ (.fO (P:=fun r w'=>r=u/\w'=w) (.same (wpAny_loadName_local X.s.kind (X.s.kl y (List.mem_of_getElem? hy)) hn e2 ⟨rfl,rfl,rfl,rfl,rfl⟩)) fun r w0 st0 z=>?_)
 obtain⟨rfl,rfl⟩:=z
 refine .bE X (.hold (ih.v xe b fr w0 μ _ h3 X q)) fun u' w1 v' μ1 st X1 C1 q=>.bQ ?_
 have C:=st.cv C
 revert C1 C
 refine aB (P:=fun v=>CV c w1.F w1.a v' u'->CV c w1.F w1.a v r->_) v (fun d q=>bC d (fun i1 q C1 C=>?_) q) q
 revert C1
 refine aB (P:=fun v'=>CV c w1.F w1.a v' u'->_) v' (fun d q=>bC d (fun i2 q C1=>?_) q) q
 obtain⟨t,rfl⟩:=C
 obtain⟨t',rfl⟩:=C1
 refine .bE X1 (K:=fun v μ=>v=.int (i1+i2)/\μ=μ1) (.operate (.val (v:=.int (i1+i2)) X1.t ⟨rfl,rfl⟩ (AutoIntOps.iadd_0 ⟨rfl,rfl,rfl,_,rfl⟩))) fun r2 w2 v2 μ2 st2 X2 C2 z=>?_
 obtain⟨rfl,rfl⟩:=z
 exact .bQ (.bind (fu (kn (K:=fun fr μ=>K .next fr μ) hy X2 C2 q)) fun d w3 st3 q=>q.elim fun fr3 q=>q.elim fun μ3 q=>.pure ⟨.next,fr3,μ3,rfl,q.1,q.2⟩)) hc
theorem Fx:Mb c n []:=fun es b fr w μ K hc X q=>List.isEmpty_iff.mp hc▸.pure ⟨.next,fr,μ,rfl,X,q⟩
theorem so(x:Stmt)(r:List Stmt)(env:Env):execs (x::r) env=(do match<-exec x env with|.next=>execs r env|f=>pure f):=rfl
theorem Cs(s:St)(ss:List St)(ih:SS c n s)(ihs:Mb c n ss):Mb c n (s::ss):=fun es b fr w μ K hc X q=>by
 cases es with
 |nil=>exact nf hc
 |cons e es=>
  obtain⟨h1,h2⟩:=a2 hc
  rw[so]
  refine .bind (ih e b fr w μ _ h1 X q) fun f w1 st q=>?_
  obtain⟨fl,fr1,μ1,hf,X1,q⟩:=q
  cases fl with
  |next=>cases hf;exact ihs es b fr1 w1 μ1 K h2 X1 q
  |cont=>cases hf;exact .pure ⟨.cont,fr1,μ1,rfl,X1,q⟩
  |ret v=>obtain⟨u,rfl,C⟩:=hf;exact .pure ⟨.ret v,fr1,μ1,⟨u,rfl,C⟩,X1,q⟩
theorem Pw(G:Good c)(t:Ts)(bs:List St):SS c n (.sR t bs):=fun e b fr w μ K hc X q=>JC e (fun te be p h=>by
 rw[exec_While]
 exact .bQ (ux (q c te be b w G (a2 h).1 (a2 h).2 X))) hc
theorem vM(target iter:Expr)(body orelse:List Stmt)(pos:Pos)(env:Env):exec (.For target iter body orelse pos) env=(do
  standAt pos
  let x<-foldedSetIterable iter env (<-eval iter env)
  standAt iter.pos
  runOwn (.forLoop target (<-holding [x] (pyIter x)) body orelse env) env):=rfl
theorem OR(G:Good c)(t:Tg)(it:It)(bs:List St)(ihi:SI c n it):SS c n (.FN t it bs):=fun e b fr w μ K hc X q=>JX e (fun te ie be p h=>by
 obtain⟨h1,h2,h3,h4⟩:=a4 h
 rw[vM]
 refine .bQ (aj (aG (ihi ie b fr w μ _ (jo it) h2 id X q) fun u s q=>?_))
 obtain⟨w0,rfl,x0,hf,q⟩:=q
 rw[hf b.env]
 refine aj (aH (aj (eM (aj (bj (aG q fun u s q=>?_))))))
 obtain⟨w1,rfl,x1,I,pv,items,g,μ1,rfl,S1,hp,hg,It,q,hs⟩:=q
 have x01:=x0.trans x1
 refine aG (ux (q c te be b w1 (jo it) I pv G h1 h3 (Bc h4 h1) (X.step x01 S1) (fun m=>X.d.pv.l.ne (hp _ m).2) It)) fun f s q=>?_
 obtain⟨w2,rfl,x2,q⟩:=q
 exact⟨w2,rfl,(x01.up.trans x2).cut fun b m=>(List.mem_cons.mp m).imp List.mem_singleton.mpr fun m=>(hp b m).2,q⟩) hc
end
section
variable{c:Cx}{n:Nat}{b:Bk}{fr:Fr}{w w':Wd}{μ:Mu}{A:Around}{v:V}{u:Value}
theorem Cq{g:Gt}{t:Tg}{ct:Ct}{te:Expr}{env:Env}(h:cG g t ct te=true)(u:Value):assignAll u ((assignEach [te] env).map (·.2))=assign te env u:=by
 cases te with
 |Starred a p=>cases t<;>exact nf h
 |_=>rfl
theorem Fj{α:Type}(l:List α)(h:l.length=2):∃a d,l=[a,d]:=match l,h with|[a,d],h=>⟨a,d,rfl⟩
theorem zZ{x y:Str}(h:x≠y):[x,y].eraseDups=[x,y]:=by
 rw[List.eraseDups_cons,List.filter_cons_of_pos (by rw[beq_eq_false_iff_ne.mpr h.symm];rfl)]
 rfl
theorem Mc{x y:Str}{p q p' p'':Pos}{k k':Nat}{a d:Expr}{env:Env}(hk:env.blockKind=.function)(h1:env.kindOf x=some .local)(h2:env.kindOf y=some .local)(hl:p.line=q.line)(hn:x≠y)
  (ho:xc a=true/\xc d=true) (hf:[a,d].all (foldedForSure 8)=false) (hc:[a,d].all (constantsAlone 8)=false):swappedStores [.Tuple [.Name x p,.Name y q] k p'] (.Tuple [a,d] k' p'') env=pure (some [x,y]):=by
 have e1:(env.kindOf x==some .local&&p.line==p.line)=true:=by rw[h1,beq_self_eq_true,beq_self_eq_true];rfl
 have e2:(env.kindOf y==some .local&&q.line==p.line)=true:=by rw[h2,hl,beq_self_eq_true,beq_self_eq_true];rfl
 have e3:=zZ hn
 unfold swappedStores
 show(if(_||env.blockKind != .function)=true then _ else _)=_
 rw[hk]
 show(if(List.any _ _)=true then _ else _)=_
 rw[if_neg fun h=>(List.any_eq_true.mp h).elim fun e q=>?_]
 ·have e4:∀F:Expr->Option Str,F (.Name x p)=some x->F (.Name y q)=some y->[Expr.Name x p,.Name y q].filterMap F=[x,y]:=fun F h1 h2=>by
   rw[List.filterMap_cons_some h1,List.filterMap_cons_some h2];rfl
  rw[e4 _ (if_pos e1) (if_pos e2),e3]
  show(if List.all _ _=true then _ else _)=_
  rw[hf]
  show(if List.all _ _=true then _ else _)=_
  rw[hc]
  rfl
 ·obtain⟨m,q⟩:=q
  have st:xc e=true:=(List.mem_cons.mp m).elim (fun q=>q▸ho.1) fun m=>List.mem_singleton.mp m▸ho.2
  cases e with
  |Starred a p=>exact nf st
  |_=>exact nf q
theorem Ft{ct:Ct}{t:Tg}{P:Tg->Expr->Expr->Prop}(te e:Expr)(f:∀x y p q k p' k' p'' a d i j,p.line=q.line->x≠y->x∈ct.locs->y∈ct.locs->xc a=true/\xc d=true->[a,d].all (foldedForSure 8)=false->[a,d].all (constantsAlone 8)=false->P (.tup [.lv i,.lv j]) (.Tuple [.Name x p,.Name y q] k p') (.Tuple [a,d] k' p''))
  (h:L0 ct t te e=true):P t te e:=
 je (P:=fun te=>P t te e) te (fun ts k p' h=>je (P:=fun e=>P t _ e) e (fun vs k' p'' h=>tW (P:=fun ts=>P t (.Tuple ts _ _) _) ts (fun l r h=>dH (P:=fun l=>P t (.Tuple [l,r] _ _) _) l (fun x p h=>dH (P:=fun r=>P t (.Tuple [.Name x p,r] _ _) _) r (fun y q h=>by
  obtain⟨h,h9⟩:=a2 h
  obtain⟨h,h8⟩:=a2 h
  obtain⟨h,h7⟩:=a2 h
  obtain⟨h,h6⟩:=a2 h
  obtain⟨h,h5⟩:=a2 h
  obtain⟨h,h4⟩:=a2 h
  obtain⟨h1,h2,h3⟩:=a3 h
  obtain⟨a,d,rfl⟩:=Fj vs (eq_of_beq h1)
  have h2:(xc a&&(xc d&&true))=true:=h2
  have h2:=a2 h2
  cases t with
  |tup l=>exact tW (P:=fun l=>P (.tup l) _ _) l (fun u v h9=>by
    cases u with
    |lv i=>cases v with
     |lv j=>exact f x y p q k p' k' p'' a d i j (eq_of_beq h3) (bne_iff_ne.mp h4) (List.contains_iff_mem.mp h5) (List.contains_iff_mem.mp h6) ⟨h2.1,(a2 h2.2).1⟩ ((Bool.not_eq_true' _).mp h7) ((Bool.not_eq_true' _).mp h8)
     |_=>exact nf h9
    |_=>exact nf h9) h9
  |_=>exact nf h9) h) h) h) h) h
theorem MQ(x y:Str)(a d:Value)(env:Env):assignInOrder ([x,y].reverse.map fun n=>bindName env n) [a,d].reverse=(do holding [a] (bindName env y d);do holding [] (bindName env x a);pure ()):=rfl
theorem nr(x y:Str)(env:Env)(u:Value)(ts:List (Value->Sem Unit)):assignStores env u (some [x,y]) ts=(do
  rule "assign.swapped-stores"
  let items<-unpackItems u 2 none
  assignInOrder ([x,y].reverse.map fun n=>bindName env n) items.reverse
  pure .next):=rfl
theorem MZ{env:Env}(h:env.scope.kind=.function):env.blockKind=.function:=by unfold Env.blockKind;rw[h];rfl
theorem E6(t:Tg)(x:Ex)(ih:SE c n x)(iht:SA c n t):SS c n (.assign t x):=fun e b fr w μ K hc X q=>Lb e (fun te e p h=>by
 obtain⟨h1,h2,h3⟩:=a3 h
 have q:eE n x fr μ (FY (eA n t) fr K):=q
 have one:WP c [b.env.locals] b.A (do let v<-eval e b.env;assignStores b.env v none ((assignEach [te] b.env).map (·.2))) w (PX c n b K):=
  .bE X (ih.v e b fr w μ _ h2 X q) fun u w1 v μ1 st X1 C1 q=>by
   show WP c _ b.A (do assignAll u ((assignEach [te] b.env).map (·.2));pure Flow.next) w1 _
   rw[Cq h1]
   exact .bind (iht te b fr w1 μ1 v u _ h1 X1 C1 q) fun d w2 st q=>q.elim fun fr2 q=>q.elim fun μ2 q=>.pure ⟨.next,fr2,μ2,rfl,q.1,q.2⟩
 have hw:swapsWithSole [te] e p.line b.env=swapsWith e (some te) p.line b.env:=rfl
 rw[exec_Assign_arm,hw]
 refine .bQ ?_
 cases hco:Jn x with
 |true=>
  rw[hco] at h3
  obtain⟨hx,hs⟩:=a2 h3
  obtain⟨r,hr⟩:=(Cb (te:=te) (line:=p.line) (env:=b.env)).2 hx
  rw[hr]
  cases r with
  |false=>
   show WP c _ b.A (do let v<-eval e b.env;assignStores b.env v (<-swappedStores [te] e b.env) ((assignEach [te] b.env).map (·.2))) w _
   rw[CM hs]
   exact one
  |true=>
   show WP c _ b.A (do evalThenUse e b.env (fun v=>assignAll v ((assignEach [te] b.env).map (·.2)));pure Flow.next) w _
   refine .bind (ih.u hco e b fr w μ _ _ (De K) h2 X q fun u w1 v μ1 X1 C1 q=>?_) fun d w2 st q=>q.elim fun fr2 q=>q.elim fun μ2 q=>.pure ⟨.next,fr2,μ2,rfl,q.1,q.2⟩
   rw[Cq h1]
   exact iht _ b fr w1 μ1 v u _ h1 X1 C1 q
 |false=>
  rw[hco] at h3
  obtain⟨g1,g2⟩:=a2 h3
  rw[(Cb (te:=te)).1 g1]
  show WP c _ b.A (do let v<-eval e b.env;assignStores b.env v (<-swappedStores [te] e b.env) ((assignEach [te] b.env).map (·.2))) w _
  rcases Bool.or_eq_true_iff.mp g2 with g|g
  ·rw[CM g]
   exact one
  ·clear one hw g1 g2 h3 hco
   refine Ft (P:=fun t te e=>cG c.g t b.ct te=true->cE c.g x b.ct e=true->eE n x fr μ (FY (eA n t) fr K)->WP c [b.env.locals] b.A (do let v<-eval e b.env;assignStores b.env v (<-swappedStores [te] e b.env) ((assignEach [te] b.env).map (·.2))) w (PX c n b K)) te e (fun x1 x2 p1 p2 k p' k' p'' a d i j hl hn m1 m2 ho hf hk h1 h2 q=>?_) g h1 h2 q
   rw[Mc (MZ X.s.kind) (X.s.kl x1 m1) (X.s.kl x2 m2) hl hn ho hf hk]
   refine .bE X (ih.v _ b fr w μ _ h2 X q) fun u w1 v μ1 st X1 C1 q=>?_
   show WP c _ b.A (assignStores b.env u (some [x1,x2]) ((assignEach [Expr.Tuple [.Name x1 p1,.Name x2 p2] k p'] b.env).map (·.2))) w1 _
   rw[nr]
   have q:items v fun l=>xi [Tg.lv i,Tg.lv j] l (Pq n [Tg.lv i,Tg.lv j] l fr μ1 (De K)):=q
   obtain⟨vs,q,hu⟩:=yi (A:=b.A) X1.s.handled X1.t q C1
   obtain⟨hl,q⟩:=yX _ vs q
   obtain⟨v1,v2,rfl⟩:=Fj vs hl.symm
   refine aj (qq (WP.fO hu fun us w2 st2 q'=>?_))
   obtain⟨S2,C2⟩:=q'
   have X2:=X1.step st2 S2
   obtain⟨u1,us,rfl,D1,C2⟩:=C2
   obtain⟨u2,us,rfl,D2,C2⟩:=C2
   cases C2
   rw[MQ]
   obtain⟨g1,g2⟩:=(je (P:=fun te=>∀x1 x2 p q k p',te=.Tuple [.Name x1 p,.Name x2 q] k p'->b.ct.locs[i]? =some x1/\b.ct.locs[j]? =some x2) _ (fun l k p h x1 x2 p q k p' e=>by
    cases e
    obtain⟨h1,h2⟩:=a2 h
    exact⟨eq_of_beq (a2 h1).1,eq_of_beq (a2 (a2 h2).1).1⟩) h1) _ _ _ _ _ _ rfl
   have q:cond (iE fr.vs i) (cond (iE (du fr.vs i v1) j) (K .next ⟨du (du fr.vs i v1) j v2,fr.cs⟩ μ1) False) False:=q
   cases e1:iE fr.vs i with
   |false=>rw[e1] at q;exact q.elim
   |true=>cases e2:iE (du fr.vs i v1) j with
    |false=>rw[e1,e2] at q;exact q.elim
    |true=>
     rw[e1,e2] at q
     have hij:i≠j:=fun e=>hn (Option.some.inj (g1.symm.trans (e▸g2)))
     have q:K .next ⟨du (du fr.vs j v2) i v1,fr.cs⟩ μ1:=by
      rw[fX,fX,List.set_comm _ _ hij.symm,<-fX,<-fX];exact q
     refine .bind (P:=fun d w=>PF c n b (De K) w) (.bind (P:=fun d w=>PF c n b (fun fr μ=>K .next ⟨du fr.vs i v1,fr.cs⟩ μ) w) (.hold (fu (kn (K:=fun fr μ=>K .next ⟨du fr.vs i v1,fr.cs⟩ μ) g2 X2 D2 q))) fun d w3 st3 q=>?_) fun d w4 st4 q=>q.elim fun fr4 q=>q.elim fun μ4 q=>.pure ⟨.next,fr4,μ4,rfl,q.1,q.2⟩
     obtain⟨fr3,μ3,X3,q⟩:=q
     exact .bind (P:=fun d w=>PF c n b (De K) w) (.hold (fu (kn (K:=De K) g1 X3 (st3.cv D1) q))) fun d w4 st4 q=>.pure q) hc
end
section
variable{c:Cx}{n:Nat}
theorem uj(G:Good c)(x:Ex):SE c n x:=Ex.rec (motive_1:=SE c n) (motive_2:=ST c n) (motive_3:=SI c n) (motive_4:=SA c n) (motive_5:=SL c n) (motive_6:=LD c n) (motive_7:=SO c n) (motive_8:=L2 c n) (qg G) Jl JW By B9 qp Bw uZ CA qj vk (fun m e t i f a b d h1 h2 h3 h4=>uU G m e t i f a b d h3) (vK G) BM qi BR (wY G) (pZ G) (C7 G) Bt uY Cy Kz (p8 G) (wN G) Jr Jz C4 (vN G) CX zG qv wh qo vZ vE vj qk x
theorem Hz(G:Good c)(x:Ts):ST c n x:=Ts.rec (motive_1:=SE c n) (motive_2:=ST c n) (motive_3:=SI c n) (motive_4:=SA c n) (motive_5:=SL c n) (motive_6:=LD c n) (motive_7:=SO c n) (motive_8:=L2 c n) (qg G) Jl JW By B9 qp Bw uZ CA qj vk (fun m e t i f a b d h1 h2 h3 h4=>uU G m e t i f a b d h3) (vK G) BM qi BR (wY G) (pZ G) (C7 G) Bt uY Cy Kz (p8 G) (wN G) Jr Jz C4 (vN G) CX zG qv wh qo vZ vE vj qk x
theorem ON(G:Good c)(x:It):SI c n x:=It.rec (motive_1:=SE c n) (motive_2:=ST c n) (motive_3:=SI c n) (motive_4:=SA c n) (motive_5:=SL c n) (motive_6:=LD c n) (motive_7:=SO c n) (motive_8:=L2 c n) (qg G) Jl JW By B9 qp Bw uZ CA qj vk (fun m e t i f a b d h1 h2 h3 h4=>uU G m e t i f a b d h3) (vK G) BM qi BR (wY G) (pZ G) (C7 G) Bt uY Cy Kz (p8 G) (wN G) Jr Jz C4 (vN G) CX zG qv wh qo vZ vE vj qk x
theorem LO(G:Good c)(x:Tg):SA c n x:=Tg.rec (motive_1:=SE c n) (motive_2:=ST c n) (motive_3:=SI c n) (motive_4:=SA c n) (motive_5:=SL c n) (motive_6:=LD c n) (motive_7:=SO c n) (motive_8:=L2 c n) (qg G) Jl JW By B9 qp Bw uZ CA qj vk (fun m e t i f a b d h1 h2 h3 h4=>uU G m e t i f a b d h3) (vK G) BM qi BR (wY G) (pZ G) (C7 G) Bt uY Cy Kz (p8 G) (wN G) Jr Jz C4 (vN G) CX zG qv wh qo vZ vE vj qk x
theorem O2(G:Good c)(s:St):SS c n s:=St.rec (motive_1:=SS c n) (motive_2:=Mb c n) (fun t e=>E6 t e (uj G e) (LO G t)) (fun i e=>N' i e (uj G e)) (fun e=>OC e (uj G e)) (fun e=>Nh e (uj G e)) (fun t b o=>Ra t b o (Hz G t)) (fun t b h=>Pw G t b) (fun t i b h=>OR G t i b (ON G i)) MH Mh Fx Cs s
theorem Bi(G:Good c)(l:List St):Mb c n l:=by
 induction l with
 |nil=>exact Fx
 |cons t l ih=>exact Cs t l (O2 G t) ih
end
section
theorem EG{w:World}{prog:Program}(e:Expr)(es:List Stmt)(env:Env):(model prog w).den (.whileLoop e es [] env)=(whileTurn e es [] env).onRaise (fun x=>do noteFrame x env;theTreesLotGoes x):=rfl
theorem CU{w:World}{prog:Program}(e:Expr)(it:Value)(es:List Stmt)(env:Env):(model prog w).den (.forLoop e it es [] env)=(forTurn e it es [] env).onRaise (fun x=>do noteFrame x env;theTreesLotGoes x):=rfl
theorem EL{w:World}{prog:Program}(es:List Stmt)(env:Env):(model prog w).den (.block es env)=(do return .done (<-(execs es env).onRaise (fun x=>do noteFrame x env;theTreesLotGoes x))):=rfl
theorem zE{w:World}{prog:Program}(ee te ie:Expr)(es:List Expr)(sc:Scope)(pos:Pos)(it acc:Value)(env:Env):(model prog w).den (.compLoop (.ListComp ee [⟨te,ie,es,0⟩] sc pos) 0 it acc env)=
  (compTurn (.ListComp ee [⟨te,ie,es,0⟩] sc pos) 0 it acc env).onRaise (fun x=>do noteFrame x env;theTreesLotGoes x):=rfl
theorem s_(test:Expr)(body orelse:List Stmt)(env:Env):whileTurn test body orelse env=(do
 if<-isTrue test env (eval test env)then
  match<-execs body env with
  |.next|.cont=>again (.whileLoop test body orelse env)
  |.brk=>pure (.done .next)
  |.ret v=>pure (.done (.ret v))
 else return .done (<-execs orelse env)):=rfl
theorem oX(target:Expr)(it:Value)(body orelse:List Stmt)(env:Env):forTurn target it body orelse env=(do
 standAt target.pos
 match<-(pyNext it).onRaise (fun _=>standAt {target.pos with line:=0})with
 |none=>again (.block orelse env)
 |some v=>
  letOwnedTupleGo target it v
  assign target env v
  match<-execs body env with
  |.next|.cont=>again (.forLoop target it body orelse env)
  |.brk=>pure (.done .next)
  |.ret v=>pure (.done (.ret v))):=rfl
abbrev kU(es:List Expr)(env:Env)(b:Bool):Sem Bool:=forIn es b fun x r=>if r=true then do let ok<-isTrue x env (eval x env);pure (ForInStep.yield ok)else pure (ForInStep.yield r)
theorem zb(es:List Expr)(env:Env):kU es env false=pure false:=by
 induction es with
 |nil=>rfl
 |cons x es ih=>
  unfold kU
  rw[List.forIn_cons,if_neg Bool.false_ne_true,pure_bind]
  exact ih
theorem A9(x:Expr)(es:List Expr)(env:Env):kU (x::es) env true=(do let ok<-isTrue x env (eval x env);kU es env ok):=by
 unfold kU
 rw[List.forIn_cons,if_pos rfl,bind_assoc]
 exact congrArg _ (funext fun b=>pure_bind _ _)
def QG(n:Nat)(t:Ts)(l:List St)(Q:KS):KS:=fun fl fr μ=>match fl with
 |.next=>wW n t l fr μ Q
 |.cont=>wW n t l fr μ Q
 |.ret v=>Q (.ret v) fr μ
noncomputable def SM(n:Nat)(t:Ts)(l:List St)(fr:Fr)(Q:KS):KB:=fun v μ=>cond v (aA n l fr μ (QG n t l Q)) (Q .next fr μ)
def RP(n:Nat)(t:Tg)(xs:List V)(g:Option (Nat×List D))(l:List St)(Q:KS):KS:=fun fl fr μ=>match fl with
 |.next=>wF n t xs g l fr μ Q
 |.cont=>wF n t xs g l fr μ Q
 |.ret v=>Q (.ret v) fr μ
noncomputable def SH(n:Nat)(t:Tg)(xs:List V)(g:Option (Nat×List D))(l:List St)(Q:KS):KF:=fun fr μ=>aA n l fr μ (RP n t xs g l Q)
noncomputable def SP(n:Nat)(elt:Ex)(tg:Tg)(ifs:List Ts)(xs:List V)(g:Option (Nat×List D))(fr:Fr)(Q:KD):KB:=fun b μ=>
 cond b (eE n elt fr μ fun v μ=>sD v fun d=>wC n elt tg ifs xs g fr μ fun ds=>Q (d::ds)) (wC n elt tg ifs xs g fr μ Q)
noncomputable def Tc(n:Nat)(elt:Ex)(tg:Tg)(ifs:List Ts)(xs:List V)(g:Option (Nat×List D))(Q:KD):KF:=fun fr μ=>Mp n ifs fr μ (SP n elt tg ifs xs g fr Q)
section
variable{c:Cx}{n:Nat}{b:Bk}{fr:Fr}{w w':Wd}{μ μ':Mu}{A:Around}{L L':List Addr}
def Qg(c:Cx)(L:List Addr)(A:Around)(P:Flow->Wd->Prop)(f:Fin)(w:Wd):Prop:=match f with
 |.done f=>P f w
 |.again cd=>cd.quiet=true/\cA c.M A cd (RC c L w P) w.s
theorem iQ{cd:Code}{t:Sem Fin}{k:Value->Sem Unit}{P:Flow->Wd->Prop}(hd:c.M.den cd=t.onRaise k)(hw:cd.weight=0)(hu:cd.cUnits=0)(h:WP c L A t w (Qg c L A P))(hdc:j5 cd=false:=by rfl):cA c.M A cd (RC c L w P) w.s:=by
 refine fZ ?_ hdc
 rw[Around.under_of_weight hw hu,hd]
 refine d0 (aG h fun fin s q=>?_)
 obtain⟨w1,rfl,st,q⟩:=q
 cases fin with
 |done f=>exact⟨w1,rfl,st,q⟩
 |again cd'=>exact⟨q.1,qn q.2 fun f s q=>q.imp fun w2 q=>⟨q.1,st.trans q.2.1,q.2.2⟩⟩
theorem WP.bindL{α β:Type}{t:Sem α}{f:α->Sem β}{P:α->Wd->Prop}{Q:β->Wd->Prop}(h:WP c L' A t w P)(hk:∀b∈L',b∈L)(k:∀a w',Step c L' w w'->P a w'->WP c L A (f a) w' Q):WP c L A (t>>=f) w Q:=
 aj (aG h fun a s q=>q.elim fun w' q=>q.1▸aG (k a w' q.2.1 q.2.2) fun b s q'=>q'.imp fun w'' q'=>⟨q'.1,(q.2.1.more hk).trans q'.2.1,q'.2.2⟩)
theorem fk.Gk(X:fk c n b fr w μ)(x:Step c L w w')(hL:b.env.locals∉L)(S:Sat c w' μ'):fk c n b fr w' μ':=⟨X.s,X.d.step x hL,S⟩
theorem aD{t:Ts}{l:List St}{Q:KS}(h:eT n t fr μ (SM n t l fr Q)):wW n t l fr μ Q:=by
 intro c e es b w G h1 h2 X
 refine iQ (EG ..) rfl rfl ?_
 rw[s_]
 refine .bB X (Hz G t e b fr w μ _ h1 X h) fun v w1 μ1 st X1 q=>?_
 cases v with
 |false=>exact .CC (.pure ⟨.next,fr,μ1,rfl,X1,q⟩)
 |true=>
  refine .bind (Bi G l es b fr w1 μ1 _ h2 X1 q) fun f w2 st q=>?_
  obtain⟨fl,fr2,μ2,hf,X2,q⟩:=q
  cases fl with
  |next=>cases hf;exact .pure ⟨rfl,q c e es b w2 G h1 h2 X2⟩
  |cont=>cases hf;exact .pure ⟨rfl,q c e es b w2 G h1 h2 X2⟩
  |ret v=>obtain⟨u,rfl,C⟩:=hf;exact .pure ⟨.ret v,fr2,μ2,⟨u,rfl,C⟩,X2,q⟩
theorem n8{t:Tg}{l:List St}{g:Option (Nat×List D)}{Q:KS}(hg:Ef g μ)(h:Q .next fr μ):wF n t [] g l fr μ Q:=by
 intro c e es b w tt I pv G h1 h2 ht X hL It
 refine iQ (CU ..) rfl rfl ?_
 rw[oX]
 refine .bQ (.bindL (.onRaise (It w [] μ b.A .rfl nofun X.t hg X.s.handled)) (fun b m=>.tail _ m) fun r w1 st q=>?_)
 obtain⟨rfl,S1⟩:=q
 refine .pure ⟨rfl,fZ ?_⟩
 rw[Around.under_of_weight rfl rfl,EL]
 exact aj (d0 (aH (aH ⟨w1,rfl,.rfl,.next,fr,μ,rfl,X.Gk st hL S1,h⟩)))
theorem BJ{α:Type}{tt:Bool}{g:Option (Nat×List D)}{I:Addr}{pv:List Addr}{x:V}{v:Value}{xs:List V}{t:Tg}{te:Expr}{K:KF}{f:Unit->Sem α}{Q:α->Wd->Prop}(G:Good c)(h:eA n t x fr μ K)(h1:cG c.g t b.ct te=true)(hs:vp c n b)(hd:zl c b fr w)
  (hL:b.env.locals∉pv) (hk:∀T∈b.env.locals::pv,T∈L) (hv:WP c pv b.A (letOwnedTupleGo te (.ref I) v) w (fun d w2=>Sat c w2 μ/\CV c w2.F w2.a x v/\Iter c tt g I pv xs w2))
  (k:∀w' fr' μ',Step c (b.env.locals::pv) w w'->Iter c tt g I pv xs w'->fk c n b fr' w' μ'->K fr' μ'->WP c L b.A (f ()) w' Q):WP c L b.A (letOwnedTupleGo te (.ref I) v>>=fun d=>assign te b.env v>>=f) w Q:=by
 refine .bindL hv (fun b m=>hk b (.tail _ m)) fun d w2 st q=>?_
 obtain⟨S2,C2,It⟩:=q
 refine .bindL (LO G t te b fr w2 μ x v K h1 ⟨hs,hd.step st hL,S2⟩ C2 h) (fun b m=>hk b (List.mem_singleton.mp m▸.head _)) fun d w3 st3 q=>?_
 obtain⟨fr3,μ3,X3,q⟩:=q
 exact k w3 fr3 μ3 ((st.more fun b m=>.tail _ m).trans (st3.more fun b m=>List.mem_singleton.mp m▸.head _)) (It.step st3 fun b m q=>hL (List.mem_singleton.mp q▸m)) X3 q
theorem kM{t:Tg}{l:List St}{g:Option (Nat×List D)}{x:V}{xs:List V}{Q:KS}(hg:Ef g μ)(h:eA n t x fr μ (SH n t xs g l Q)):wF n t (x::xs) g l fr μ Q:=by
 intro c e es b w tt I pv G h1 h2 ht X hL It
 refine iQ (CU ..) rfl rfl ?_
 rw[oX]
 refine .bQ (.bindL (.onRaise (It w [] μ b.A e .rfl nofun X.t hg X.s.handled ht)) (fun b m=>.tail _ m) fun r w1 st q=>?_)
 obtain⟨v,rfl,hv⟩:=q
 refine BJ G h h1 X.s (X.d.step st hL) hL (fun T m=>m) hv fun w3 fr3 μ3 st3 It3 X3 q=>?_
 refine .bindL (Bi G l es b fr3 w3 μ3 _ h2 X3 q) (fun b m=>List.mem_singleton.mp m▸.head _) fun f w4 st4 q=>?_
 obtain⟨fl,fr4,μ4,hf,X4,q⟩:=q
 have It4:=It3.step st4 fun b m q=>hL (List.mem_singleton.mp q▸m)
 cases fl with
 |next=>cases hf;exact .pure ⟨rfl,q c e es b w4 tt I pv G h1 h2 ht X4 hL It4⟩
 |cont=>cases hf;exact .pure ⟨rfl,q c e es b w4 tt I pv G h1 h2 ht X4 hL It4⟩
 |ret v=>obtain⟨u,rfl,C⟩:=hf;exact .pure ⟨.ret v,fr4,μ4,⟨u,rfl,C⟩,X4,q⟩
theorem FG(G:Good c)(ts:List Ts):∀es b fr w μ K,LF c.g ts b.ct es=true->fk c n b fr w μ->Mp n ts fr μ K->WP c [] b.A (kU es b.env true) w (PB c K):=by
 induction ts with
 |nil=>exact fun es b fr w μ K h X q=>List.isEmpty_iff.mp h▸.pure ⟨μ,X.t,q⟩
 |cons t ts ih=>
  intro es b fr w μ K h X q
  cases es with
  |nil=>exact nf h
  |cons e es=>
   obtain⟨h1,h2⟩:=a2 h
   rw[A9]
   refine .bB X (Hz G t e b fr w μ _ h1 X q) fun v w1 μ1 st X1 q=>?_
   cases v with
   |true=>exact ih es b fr w1 μ1 K h2 X1 q
   |false=>rw[zb];exact .pure ⟨μ1,X1.t,q⟩
theorem fJ{elt:Ex}{tg:Tg}{ifs:List Ts}{g:Option (Nat×List D)}{Q:KD}(hg:Ef g μ)(h:Q [] μ):wC n elt tg ifs [] g fr μ Q:=by
 intro c te ee ie es sc pos b w tt I pv T ys ds G h1 h2 h3 ht X hL It ac hz
 refine iQ (zE ..) rfl rfl ?_
 rw[compTurn_list]
 refine .bQ (.bindL (It w [] μ b.A .rfl nofun X.t hg X.s.handled) (fun b m=>.tail _ (.tail _ m)) fun r w1 st q=>?_)
 obtain⟨rfl,S1⟩:=q
 have X1:=X.Gk st hL S1
 exact .pure ⟨ys,[],μ,S1,⟨ac.l.imp fun n e=>st.jx ac.p ac.v e,(List.append_nil ds).symm▸ac.d.mono st.grow,st.pv ac.v ac.p,ac.v,ac.e⟩,⟨X1.d.ns.imp fun m q=>q.1,X1.d.pv⟩,h⟩
theorem ME{T:Addr}{ys:List Value}{u:Value}(S:Sat c w μ)(p:Pv c w T)(l:w.h.PlainList T ys.toArray)(hz:ys.length<=sizeLine):
  WP c [T] A (call (.builtin "list.append") [.ref T,u]) w (fun d w'=>w'.F=w.F/\w'.a=w.a/\Sat c w' μ/\w'.h.PlainList T (ys++[u]).toArray):=
 .N3 S (eW p) (wpAny_list_append_plain (hsz:=by rw[List.size_toArray];exact hz) l fun h' g1 g2=>⟨rfl,rfl,jQ g2,fun st S'=>⟨rfl,rfl,S',by simpa using g1⟩⟩)
theorem bZ{elt:Ex}{tg:Tg}{ifs:List Ts}{x:V}{xs:List V}{g:Option (Nat×List D)}{Q:KD}(hg:Ef g μ)(h:eA n tg x fr μ (Tc n elt tg ifs xs g Q)):wC n elt tg ifs (x::xs) g fr μ Q:=by
 intro c te ee ie es sc pos b w tt I pv T ys ds G h1 h2 h3 ht X hL It ac hz
 refine iQ (zE ..) rfl rfl ?_
 rw[compTurn_list]
 refine .bQ (.bindL (It w [] μ b.A te .rfl nofun X.t hg X.s.handled ht) (fun b m=>.tail _ (.tail _ m)) fun r w1 st q=>?_)
 obtain⟨v,rfl,hv⟩:=q
 refine BJ G h h2 X.s (X.d.step st hL) hL (fun T m=>(List.mem_cons.mp m).elim (fun q=>q▸.head _) fun m=>.tail _ (.tail _ m)) hv fun w3 fr3 μ3 st3 It3 X3 q=>?_
 refine .bB X3 (FG G ifs es b fr3 w3 μ3 _ h3 X3 q) fun v w4 μ4 st4 X4 q=>?_
 have It4:=It3.step st4 nofun
 have nT:T∉b.env.locals::pv:=fun m=>(List.mem_cons.mp m).elim ac.e ac.v
 have p3:=st3.pv nT (st.pv ac.v ac.p)
 have ac4:Acc c b w4 T pv ys ds:=⟨ac.l.imp fun n e=>st4.jx p3 nofun (st3.jx (st.pv ac.v ac.p) nT (st.jx ac.p ac.v e)),((ac.d.mono st.grow).mono st3.grow).mono st4.grow,st4.pv nofun p3,ac.v,ac.e⟩
 have hz:ys.length+(xs.length+1)<=lim:=hz
 cases v with
 |false=>
  exact .CC (.pure ⟨rfl,q c te ee ie es sc pos b w4 tt I pv T ys ds G h1 h2 h3 ht X4 hL It4 ac4 (Ta (Nat.add_le_add_left (Nat.le_succ _) _) hz)⟩)
 |true=>
  refine .bind (P:=fun d w'=>∃y μ5 u,fk c n b fr3 w' μ5/\Iter c tt g I pv xs w'/\Acc c b w' T pv (ys++[u]) (ds++[y])/\wC n elt tg ifs xs g fr3 μ5 fun ds=>Q (y::ds)) (.bE X4 ((uj G elt).v ee b fr3 w4 μ4 _ h1 X4 q) fun u w5 v μ5 st5 X5 C5 q=>?_) fun d w6 st6 q=>?_
  ·revert C5
   refine aB v (fun y q C5=>?_) q
   have p5:=st5.pv nofun ac4.p
   refine .bindL (ME (u:=u) X5.t p5 (ac4.l.imp fun n e=>st5.jx ac4.p nofun e) (by rw[a0];exact Ta (Nat.le_add_right _ _) hz)) (fun b m=>List.mem_singleton.mp m▸.tail _ (.head _)) fun d w6 st6 q6=>.pure ?_
   obtain⟨f1,f2,S6,l6⟩:=q6
   have nL:b.env.locals∉[T]:=fun q=>ac.e (List.mem_singleton.mp q).symm
   have d5:jm c w6.F (ds++[y]) (ys++[u]):=Z.append (f1▸ac4.d.mono st5.grow) ⟨u,[],rfl,f1▸C5,rfl⟩
   exact⟨y,μ5,u,X5.Gk st6 nL S6,(It4.step st5 nofun).step st6 fun b m q=>ac.v (List.mem_singleton.mp q▸m),⟨l6,d5,⟨f1▸p5.f,f2▸p5.o,p5.t,l6.elim fun n e=>⟨_,e⟩⟩,ac.v,ac.e⟩,q⟩
  ·obtain⟨y,μ5,u,X6,It6,ac6,q⟩:=q
   refine .pure ⟨rfl,qn (q c te ee ie es sc pos b w6 tt I pv T (ys++[u]) (ds++[y]) G h1 h2 h3 ht X6 hL It6 ac6 (by rw[TM,Nat.add_assoc,Nat.add_comm [u].length];exact hz)) fun f s q=>?_⟩
   obtain⟨w7,rfl,x7,zs,es,μ7,S7,ac7,hn,q⟩:=q
   exact⟨w7,rfl,x7,zs,y::es,μ7,S7,(TP ds [y] es).symm▸ac7,hn,q⟩
end
end
section
theorem Dn{M:Model}{A:Around}{s:Shared}{scope:Scope}{globals:Addr}{binds:List (Str×Value)}{qual:Str}{func:Option Addr}{code:Value}{builtins:Addr}{Q:Env->Shared->Prop}
  (h:∀env,env={scope,locals:=s.heap.objs.size,globals,cells:=cellsFrom (s.heap.objs.size+1) scope.names [],qual,func,code,frame:=some s.heap.objs.size,builtins}->∀(f:Str×Value->PUnit->Sem (ForInStep PUnit)),(∀n v u,f (n,v) u=(do storeName env n v;pure (.yield ⟨⟩)))->wA M A (forIn binds ⟨⟩ f) (fun _ s'=>Q env s')
   {s with heap:=pushCells (s.heap.push {cls:=.type "frame",data:=.dict #[]}) scope.names}):wA M A (newFunctionEnv scope globals [] binds qual func code none builtins) Q s:=by
 simp only[newFunctionEnv,Option.isSome_none,Bool.false_eq_true,if_false]
 refine bw (wpAny_alloc ?_)
 refine bw (wpAny_layCells _ (fun name kind cells=>by cases hkc:kind==NameKind.cell<;>simp) _ _ _ _ ?_)
 rw[show({s with heap:=s.heap.push {cls:=.type "frame",data:=.dict #[]}}:Shared).heap.objs.size=s.heap.objs.size+1 from Heap.size_push ..]
 exact aj (aG (h _ rfl _ fun _ _ _=>rfl) fun _ s' hq=>aH hq)
section
variable{c:Cx}{n:Nat}{b:Bk}{fr:Fr}{w w':Wd}{μ μ':Mu}{A:Around}{L L':List Addr}
def BI(c:Cx)(n:Nat)(b:Bk)(μ:Mu)(cs:List Nat)(done:List (Str×V))(w:Wd):Prop:=∃fr μ',fk c n b fr w μ'/\fr.cs=cs/\μ'.length=μ.length+b.ct.cells.length/\(∀(j:Nat) m,μ[j]? =some m->μ'[j]? =some m)/\(∀j,j<b.ct.cells.length->∃v,μ'[μ.length+j]? =some (.cell v))/\
 ∀x v,(x,v)∈done->(∀i:Nat,b.ct.locs[i]? =some x->fr.vs[i]? =some (some v))/\∀i:Nat,b.ct.cells[i]? =some x->μ'[μ.length+i]? =some (.cell (some v))
theorem LK{α:Type}{l:List α}{i j:Nat}{x:α}(nd:l.Nodup)(h1:l[i]? =some x)(h2:l[j]? =some x):i=j:=(List.getElem?_inj (List.getElem?_eq_some_iff.mp h1).1 nd).mp (h1.trans h2.symm)
theorem FQ{cs:List Nat}{done:List (Str×V)}{x:Str}{v:V}{u:Value}(hcs:cs=(List.range b.ct.cells.length).map (μ.length+·))(hnd:b.ct.cells.Nodup)(hdis:∀x∈b.ct.locs,x∉b.ct.cells)(hx:x∈b.ct.locs\/x∈b.ct.cells)(new:∀v,(x,v)∉done)(C:CV c w.F w.a v u)(B:BI c n b μ cs done w):
  WP c [b.env.locals] b.A (storeName b.env x u) w (fun d w'=>BI c n b μ cs (done++[(x,v)]) w'):=by
 obtain⟨fr,μ',X,e1,e2,e3,e4,e5⟩:=B
 rcases hx with hx|hx
 ·obtain⟨i,hi⟩:=List.getElem?_of_mem hx
  refine(kn (K:=fun fr' μ2=>μ2=μ'/\fr'=⟨fr.vs.set i (some v),fr.cs⟩) hi X C ⟨rfl,by rw[fX]⟩).mono fun d w1 st q=>?_
  obtain⟨fr1,μ1,X1,rfl,rfl⟩:=q
  refine⟨_,_,X1,e1,e2,e3,e4,fun y v' m=>(List.mem_append.mp m).elim (fun m=>⟨fun j hj=>?_,(e5 y v' m).2⟩) fun m=>?_⟩
  ·rw[List.getElem?_set_ne fun q=>?_]
   ·exact(e5 y v' m).1 j hj
   ·cases q
    exact new v' (Option.some.inj (hi.symm.trans hj)▸m)
  ·cases List.mem_singleton.mp m
   refine⟨fun j hj=>?_,fun j hj=>(hdis _ hx (List.mem_of_getElem? hj)).elim⟩
   cases LK X.s.Q4 hi hj
   exact List.getElem?_set_self (X.d.len▸(List.getElem?_eq_some_iff.mp hi).1)
 ·obtain⟨i,hi⟩:=List.getElem?_of_mem hx
  have hlt:=(List.getElem?_eq_some_iff.mp hi).1
  obtain⟨v0,hm⟩:=e4 i hlt
  refine(xM (k:=μ.length+i) (v:=v) (K:=fun fr' μ2=>μ2=μ'.set (μ.length+i) (.cell (some v))/\fr'=fr) hi ?_ X C ?_).mono fun d w1 st q=>?_
  ·rw[e1,hcs,List.getElem?_map,List.getElem?_range hlt];rfl
  ·exact⟨_,hm,show lX _ _ _ _ by unfold lX;exact⟨rfl,rfl⟩⟩
  obtain⟨fr1,μ1,X1,rfl,rfl⟩:=q
  have hlen:μ.length+i<μ'.length:=(List.getElem?_eq_some_iff.mp hm).1
  refine⟨_,_,X1,e1,List.length_set.trans e2,fun j m hj=>?_,fun j hj=>?_,fun y v' m=>(List.mem_append.mp m).elim (fun m=>⟨(e5 y v' m).1,fun j hj=>?_⟩) fun m=>?_⟩
  ·rw[List.getElem?_set_ne (Nat.ne_of_gt (Nat.lt_of_lt_of_le (List.getElem?_eq_some_iff.mp hj).1 (Nat.le_add_right _ _)))]
   exact e3 j m hj
  ·by_cases q:i=j
   ·exact q▸⟨_,List.getElem?_set_self hlen⟩
   ·rw[List.getElem?_set_ne fun r=>q (Nat.add_left_cancel r)]
    exact e4 j hj
  ·rw[List.getElem?_set_ne fun q=>?_]
   ·exact(e5 y v' m).2 j hj
   ·cases Nat.add_left_cancel q
    exact new v' (Option.some.inj (hi.symm.trans hj)▸m)
  ·cases List.mem_singleton.mp m
   refine⟨fun j hj=>(hdis _ (List.mem_of_getElem? hj) hx).elim,fun j hj=>?_⟩
   cases LK hnd hi hj
   exact List.getElem?_set_self hlen
theorem HF{cs:List Nat}(hcs:cs=(List.range b.ct.cells.length).map (μ.length+·))(hnd:b.ct.cells.Nodup)(hdis:∀x∈b.ct.locs,x∉b.ct.cells)(f:Str×Value->PUnit->Sem (ForInStep PUnit))(hf:∀n v u,f (n,v) u=(do storeName b.env n v;pure (.yield ⟨⟩)))(ps:List Str):
  ∀vs us done w,fC c w.F w.a vs us->ps.Nodup->(∀x∈ps,x∈b.ct.locs\/x∈b.ct.cells)->(∀x∈ps,∀v,(x,v)∉done)->BI c n b μ cs done w->WP c [b.env.locals] b.A (forIn (ps.zip us) ⟨⟩ f) w (fun d w'=>BI c n b μ cs (done++ps.zip vs) w'):=by
 induction ps with
 |nil=>exact fun vs us done w C nd cov new B=>.pure ((List.append_nil done).symm▸B)
 |cons x ps ih=>
  intro vs us done w C nd cov new B
  cases vs with
  |nil=>
   cases C
   exact .pure ((List.append_nil done).symm▸B)
  |cons v vs=>
   obtain⟨u,us,rfl,C1,C2⟩:=C
   have nd:=List.nodup_cons.mp nd
   rw[List.zip_cons_cons,List.zip_cons_cons,List.forIn_cons,hf,List.append_cons]
   refine .bind (P:=fun r w'=>r=.yield ⟨⟩/\BI c n b μ cs (done++[(x,v)]) w') (.bind (FQ hcs hnd hdis (cov x (.head _)) (new x (.head _)) C1 B) fun d w1 st q=>.pure ⟨rfl,q⟩) fun r w1 st q=>?_
   obtain⟨rfl,q⟩:=q
   exact ih vs us _ w1 (st.P5 C2) nd.2 (fun y m=>cov y (.tail _ m)) (fun y m z q=>(List.mem_append.mp q).elim (new y (.tail _ m) z) fun q=>nd.1 (by cases List.mem_singleton.mp q;exact m)) q
theorem Sat.less{ν:Mu}(S:Sat c w μ)(hl:ν.length=μ.length)(h:∀(k:Nat) m,ν[k]? =some m->μ[k]? =some m\/(m=.cell none/\∃v,μ[k]? =some (.cell v))):Sat c w ν:=
 ⟨S.base,S.sub,S.len.trans hl.symm,fun k p m e1 e2=>(h k m e2).elim (S.mo k p m e1) fun q=>by
  obtain⟨rfl,v,q⟩:=q
  obtain⟨o1,o,o2,o3⟩:=S.mo k p _ e1 q
  exact⟨o1,o,o2,fun x q=>nomatch q⟩,S.own,S.nd,S.tab⟩
theorem G2{ps names:List Str}{full:List V}{i:Nat}{x:Str}{o:Option V}(h:names[i]? =some x)(e:((srcOf ps names).map fun o=>o.bind (full[·]?))[i]? =some o):o=none\/∃v,o=some v/\(x,v)∈ps.zip full:=by
 unfold srcOf at e
 rw[List.map_map,List.getElem?_map,h] at e
 cases Option.some.inj e
 show((ps.findIdx? (·==x)).bind (full[·]?))=none\/∃v,((ps.findIdx? (·==x)).bind (full[·]?))=some v/\_
 cases hj:ps.findIdx? (·==x)with
 |none=>exact .inl rfl
 |some j=>
  obtain⟨hk,q,r⟩:=List.findIdx?_eq_some_iff_getElem.mp hj
  show full[j]? =none\/_
  cases hv:full[j]? with
  |none=>exact .inl rfl
  |some v=>exact .inr ⟨v,hv,List.mem_of_getElem? (List.getElem?_zip_eq_some.mpr ⟨(List.getElem?_eq_getElem hk).trans (congrArg some (eq_of_beq q)),hv⟩)⟩
theorem BI.fin{cs:List Nat}{ps:List Str}{full:List V}(B:BI c n b μ cs (ps.zip full) w):fk c n b ⟨(srcOf ps b.ct.locs).map fun o=>o.bind (full[·]?),cs⟩ w (μ++(srcOf ps b.ct.cells).map fun o=>.cell (o.bind (full[·]?))):=by
 obtain⟨fr,μ',X,e1,e2,e3,e4,e5⟩:=B
 have hl:∀names,(srcOf ps names).length=names.length:=fun names=>TN ..
 refine⟨X.s,⟨TN .. |>.trans (hl _),X.d.ns.imp fun m q=>⟨q.1,fun i x v h1 h2=>?_⟩,X.d.pv,e1▸X.d.cells⟩,X.t.less (by rw[TM,TN,hl,e2]) fun k m h=>?_⟩
 ·exact(G2 h1 h2).elim nofun fun r=>r.elim fun v' r=>q.2 i x v h1 (by cases r.1;exact(e5 x v r.2).1 i h1)
 ·by_cases hk:k<μ.length
  ·rw[List.getElem?_append_left hk] at h
   exact .inl (e3 k m h)
  ·obtain⟨j,rfl⟩:=Nat.exists_eq_add_of_le (Nat.not_lt.mp hk)
   rw[List.getElem?_append_right (Nat.le_add_right _ _),Nat.add_sub_cancel_left] at h
   have hj:j<b.ct.cells.length:=hl b.ct.cells▸TN .. ▸(List.getElem?_eq_some_iff.mp h).1
   have h1:=List.getElem?_eq_getElem hj
   rw[List.getElem?_map] at h
   cases ho:(srcOf ps b.ct.cells)[j]? with
   |none=>rw[ho] at h;exact nomatch h
   |some o=>
    rw[ho] at h
    cases Option.some.inj h
    refine(G2 (o:=o.bind (full[·]?)) h1 (by rw[List.getElem?_map,ho];rfl)).elim (fun q=>.inr ⟨congrArg _ q,e4 j hj⟩) fun r=>?_
    obtain⟨v,r1,r2⟩:=r
    exact .inl (((e5 _ v r2).2 j h1).trans (congrArg (fun o=>some (aI.cell o)) r1.symm))
end
end
section
variable{c:Cx}{n:Nat}{w w':Wd}{μ μ':Mu}{A:Around}
theorem ru.room(h:ru A (n+1)):A.depth<recursionLimit:=Nat.lt_of_lt_of_le (Nat.lt_of_le_of_lt (Nat.le_add_right _ _) h.depth) (by unfold recursionLimit;exact TF rfl)
theorem ru.low(h:ru A (n+1)):A.depth+n<990/\A.units+12*n<9800:=⟨Nat.lt_of_le_of_lt (Nat.le_succ _) h.depth,Nat.lt_of_le_of_lt (Nat.add_le_add_left (Nat.mul_le_mul_left 12 (Nat.le_succ n)) _) h.units⟩
theorem ru.in1(h:ru A (n+1)):ru A.in1 n:=⟨h.low.1,by have:=h.units;show A.units+1+12*n<9800;omega,h.handled⟩
theorem ru.deeper(h:ru A (n+1))(env:Env):ru (A.deeper env) n:=⟨by have:=h.depth;show A.depth+1+n<990;omega,by have:=h.units;show A.units+3+12*n<9800;omega,h.handled⟩
theorem vp.re{b:Bk}{A':Around}(E:vp c n b)(h:ru A' n):vp c n ⟨A',b.ct,b.env⟩:=⟨h.depth,h.units,h.handled,E.kind,E.glob,E.NZ,E.kl,E.kc,E.kg,E.nb,E.Q4,E.code,E.frame,E.qual⟩
theorem zl.re{b:Bk}{fr:Fr}{A':Around}(E:zl c b fr w):zl c ⟨A',b.ct,b.env⟩ fr w:=⟨E.len,E.ns,E.pv,E.cells⟩
theorem RE{a:Addr}{f:Fn}{i:RF}{env:Env}{L:Addr}{cl:List (Str×Addr)}(K:KZ c a f i)(h:ru A n)(he:env={scope:=i.fd.scope,locals:=L,globals:=i.fd.globals,cells:=cl,qual:=i.fd.qualname++".<locals>.",func:=some a,code:=i.fd.code,frame:=some L,builtins:=i.fd.builtins}):
  vp c n ⟨A,ji i.fd.scope i.fd.code,env⟩:=by
 subst he
 obtain⟨h1,h2,h3,nd,h5⟩:=rt K.sc
 have lk:∀{k x},x∈gz k i.fd.scope.names->i.fd.scope.names.lookup x=some k:=fun hx=>ja nd hx
 refine⟨h.depth,h.units,h.handled,h1,K.glob,K.NZ,fun x hx=>lk hx,fun x hx=>?_,fun x hx=>lk (List.contains_iff_mem.mp hx),fun x hx=>?_,u7 nd,.inr rfl,⟨_,rfl⟩,K.qual⟩
 ·exact(List.mem_append.mp hx).imp lk lk
 ·exact hx.elim (fun hx=>h5 _ (bJ.mp hx)) fun hx=>hx.elim (fun hx=>(List.mem_append.mp hx).elim (fun hx=>h5 _ (bJ.mp hx)) fun hx=>h5 _ (bJ.mp hx)) fun hx=>h5 _ (bJ.mp (List.contains_iff_mem.mp hx))
theorem t_(G:Good c){a:Addr}{f:Fn}{i:RF}(K:KZ c a f i){full args:List V}{KK:KS}(hf:f.full args=some full)
  (hb:aA n f.body ⟨f.vars full,(List.range f.m_.length).map (μ.length+·)⟩ (μ++f.cells full) KK) {us:List Value} (hA:ru A (n+1)) (S:Sat c w μ) (C:fC c w.F w.a args us) {Q:Value->Wd->Prop}
  (k:∀u w' fl fr μ1,Step c [] w w'->Sat c w' μ1->CV c w'.F w'.a fl.val u->KK fl fr μ1->∃w'',w''.s=w'.s/\Step c [] w w''/\Q u w''):WP c [] A (call (.ref a) us) w Q:=by
 obtain⟨o,ho,hd⟩:=K.obj
 have kb:=S.base.trans S.sub
 obtain⟨pp,loose,mean,mg,mb,T⟩:=G.top
 obtain⟨h1,h2,h3,nd,h5⟩:=rt K.sc
 unfold Fn.full at hf
 split at hf
 case isFalse=>exact nomatch hf
 case isTrue hc=>
 cases hf
 have hl:us.length=args.length:=C.len.symm
 have hdl:i.dv.length=f.defs.length:=K.defs.1.len.symm
 have np:=K.np
 have Oi:=K.Oi
 have hbind:=nj K.params K.names K.nd (us:=us) (by omega) (by omega) (by omega) (HY K.defs.2 kb)
 have cv:fC c w.F w.a (args++f.defs.drop (args.length+f.defs.length-f.np)) (us++i.dv.drop (us.length+i.dv.length-i.ps.length)):=by
  rw[hl,hdl,<-np]
  exact Z.append C (Z.drop _ (fC.mono S.base (fun k p e=>nomatch List.getElem?_nil.symm.trans e) K.defs.1))
 generalize us++i.dv.drop (us.length+i.dv.length-i.ps.length)=vs at hbind cv
 generalize args++f.defs.drop (args.length+f.defs.length-f.np)=full at hb cv
 refine qe (yl hA.room (kb _ _ ho) hd h3 h2 (cd:=fun env=>.func i.body env) (fun env=>by rw[K.body]) (fun env=>rfl) (K.code.keeps kb) (hbind _ _ _ _ ?_))
 rw[K.vz]
 refine Dn fun env he ff hff=>?_
 generalize e1:w.h.push {cls:=.type "frame",data:=.dict #[]}=H
 have z1:H.objs.size=w.h.objs.size+1:=by rw[<-e1];exact Heap.size_push ..
 have k1:Le w.h H:=e1▸Le.push _
 have hns:H.Ns w.h.objs.size fun x=>none:=by rw[<-e1];exact Heap.Ns.new ..
 clear e1
 have nC:w.h.get? w.h.objs.size=none:=cg _
 have xa:Step c [] w ⟨w.F,w.a,{w.s with heap:=H}⟩:=Step.keeps (s:={w.s with heap:=H}) rfl rfl k1
 have Sa:Sat c ⟨w.F,w.a,{w.s with heap:=H}⟩ μ:=S.keep (s:={w.s with heap:=H}) k1
 have pC:Pv c ⟨w.F,w.a,{w.s with heap:=H}⟩ w.h.objs.size:=gu (s:={w.s with heap:=H}) S k1 nC (hns.imp fun o q=>q.elim fun es q=>q.elim fun ep q=>q.1)
 obtain⟨new,xb,Sb,zn,oth⟩:=sr i.fd.scope.names ⟨w.F,w.a,{w.s with heap:=H}⟩ μ [] nd Sa
 rw[show Wd.h ⟨w.F,w.a,{w.s with heap:=H}⟩=H from rfl,z1] at zn oth
 have hcl:(ji i.fd.scope i.fd.code).cells=pick .cell i.fd.scope:=by show _++_=_;rw[K.Nj,List.append_nil]
 have hnl:(ji i.fd.scope i.fd.code).cells.length=new.length:=hcl▸zn.len
 have kc:Le H (pushCells H i.fd.scope.names):=pushCells_keeps i.fd.scope.names H
 have st:=xa.trans xb
 have es:=RE K hA.in1 he
 have hlo:env.locals=w.h.objs.size:=by rw[he]
 have hce:env.cells=cellsFrom (w.h.objs.size+1) i.fd.scope.names []:=by rw[he]
 have B0:BI c n ⟨A.in1,ji i.fd.scope i.fd.code,env⟩ μ ((List.range (ji i.fd.scope i.fd.code).cells.length).map (μ.length+·)) [] ⟨w.F,w.a++new,{w.s with heap:=pushCells H i.fd.scope.names}⟩:=by
  refine⟨⟨List.replicate (ji i.fd.scope i.fd.code).locs.length none,_⟩,_,⟨es,⟨List.length_replicate,?_,?_,?_⟩,Sb⟩,rfl,?_,fun j m e=>?_,fun j hj=>?_,fun x v m=>nomatch m⟩
  ·rw[hlo]
   exact⟨fun x=>none,hns.at' (fun o e=>kc _ _ e),fun i x v e1 e2=>(zx (fr:=⟨[],[]⟩) e2).elim⟩
  ·rw[hlo];exact xb.pv nofun pC
  ·refine Z.of (by rw[TN,List.length_range]) fun i x j e1 e2=>?_
   obtain⟨p,e3,e4,e5⟩:=zn.get (hcl▸e1)
   have hj:j=μ.length+i:=by
    rw[List.getElem?_map,List.getElem?_range (List.getElem?_eq_some_iff.mp e1).1] at e2
    exact(Option.some.inj e2).symm
   refine⟨p.2,?_,hce▸e5⟩
   rw[hj,<-S.len,List.getElem?_append_right (Nat.le_add_right _ _),Nat.add_sub_cancel_left,e3]
   exact congrArg some (Prod.ext e4 rfl)
  ·rw[TM,List.length_replicate,hnl]
  ·rw[List.getElem?_append_left (List.getElem?_eq_some_iff.mp e).1];exact e
  ·exact⟨none,by rw[List.getElem?_append_right (Nat.le_add_right _ _),Nat.add_sub_cancel_left,List.getElem?_replicate,if_pos (hnl▸hj)]⟩
 have go:=HF rfl (by show(ji i.fd.scope i.fd.code).cells.Nodup;rw[hcl];exact u7 nd) (fun x h1 h2=>by
   have h2:x∈(ji i.fd.scope i.fd.code).cells:=h2
   rw[hcl] at h2
   exact nomatch Option.some.inj ((ja nd h1).symm.trans (ja nd h2))) ff hff i.ps full vs [] _ (st.P5 cv) K.nd (fun x m=>(K.cover x m).imp id fun q=>by show x∈(ji i.fd.scope i.fd.code).cells;rw[hcl];exact q) (fun x m v q=>nomatch q) B0
 refine aG go fun d s q=>?_
 obtain⟨w3,rfl,st3,B⟩:=q
 have X3:=B.fin
 refine⟨T.nolimit.keeps (X3.t.base.trans X3.t.sub),Jw ?_⟩
 have hb:aA n f.body ⟨(srcOf i.ps (ji i.fd.scope i.fd.code).locs).map fun o=>o.bind (full[·]?),(List.range (ji i.fd.scope i.fd.code).cells.length).map (μ.length+·)⟩ (μ++(srcOf i.ps (ji i.fd.scope i.fd.code).cells).map fun o=>.cell (o.bind (full[·]?))) KK:=by
  have e1:f.m_.length=(ji i.fd.scope i.fd.code).cells.length:=by rw[K.m_,hcl];exact TN ..
  rw[<-e1,hcl,<-K.m_,show(ji i.fd.scope i.fd.code).locs=pick .local i.fd.scope from rfl,<-K.DK]
  exact hb
 refine aG (Bi G f.body i.body ⟨A.deeper env,ji i.fd.scope i.fd.code,env⟩ _ w3 _ KK K.comp ⟨es.re (hA.deeper env),X3.d.re,X3.t⟩ hb) fun fl s q=>?_
 obtain⟨w4,rfl,st4,fl',fr4,μ4,hf,X4,q⟩:=q
 have all:Step c [] w w4:=(st.up.trans (st3.trans st4)).cut fun b m=>.inr (by rw[List.mem_singleton.mp m];show w.h.get? env.locals=none;rw[hlo];exact nC)
 have fin:∀u,CV c w4.F w4.a fl'.val u->∃v,Flow.ret u=Flow.ret v/\∃w',w'.s=w4.s/\Step c [] w w'/\Q v w':=fun u C=>⟨u,rfl,k u w4 fl' fr4 μ4 all X4.t C q⟩
 cases fl' with
 |next=>cases hf;exact fin _ rfl
 |cont=>cases hf;exact fin _ rfl
 |ret v=>obtain⟨u,rfl,C⟩:=hf;exact fin u C
end
section
variable{c:Cx}{n:Nat}{w:Wd}{μ μ1:Mu}{A:Around}
def Qe(c:Cx)(w:Wd)(s:Shared)(μc:Mu)(F1:Heap)(P:Heap->Prop):Prop:=∃F2,Le F1 F2/\Step c [] w ⟨F2,w.a,s⟩/\Sat c ⟨F2,w.a,s⟩ μc/\P F2
theorem Ph{new:lI}{μc:Mu}{F0:Heap}{s:Shared}(S0:Sat c ⟨F0,w.a++new,s⟩ μ1)(hz:∀b∈lI.own new,w.h.get? b=none)(v:V):∀x,Fz μ1 w.a.length v x->∀u F1,Le F0 F1->Step c [] w ⟨F1,w.a,s⟩->Sat c ⟨F1,w.a,s⟩ μc->CV c F0 (w.a++new) v u->Qe c w s μc F1 fun F2=>CD c F2 x u:=by
 refine V.rec (motive_1:=fun v=>∀x,Fz μ1 w.a.length v x->∀u F1,Le F0 F1->Step c [] w ⟨F1,w.a,s⟩->Sat c ⟨F1,w.a,s⟩ μc->CV c F0 (w.a++new) v u->Qe c w s μc F1 fun F2=>CD c F2 x u)
  (motive_2:=fun l=>∀ds,R4 μ1 w.a.length l ds->∀us F1,Le F0 F1->Step c [] w ⟨F1,w.a,s⟩->Sat c ⟨F1,w.a,s⟩ μc->fC c F0 (w.a++new) l us->Qe c w s μc F1 fun F2=>jm c F2 ds us)
  (fun d x h u F1 g st S C=>⟨F1,.rfl,st,S,h▸CD.mono g d u C⟩) (fun k x h u F1 g st S C=>?_) (fun i x=>TO) (fun i x=>TO) (fun x=>TO) (fun x=>TO) (fun j cs x=>TO) (fun l ih x h u F1 g st S C=>?_)
  (fun ds h us F1 g st S C=>⟨F1,.rfl,st,S,h▸C⟩) (fun v l ih ihs ds h us F1 g st S C=>?_) v
 ·obtain⟨hk,l,hm,rfl⟩:=h
  obtain⟨a,o,rfl,e⟩:=C
  obtain⟨e1,vs,hl,hd⟩:=S0.mo k _ _ e hm
  cases e1
  obtain⟨nn,ho⟩:=hl
  have e':new[k-w.a.length]? =some (a,a):=(List.getElem?_append_right hk).symm.trans e
  have ha:a∈lI.own new:=List.mem_map.mpr ⟨(a,a),List.mem_of_getElem? e',rfl⟩
  have hno:a∉w.a.own:=fun q=>by
   have nd:=S0.nd
   rw[lI.own,List.map_append] at nd
   exact(List.nodup_append.mp nd).2.2 a q a ha rfl
  obtain⟨F2,f1,f2,f3,S2⟩:=jz S ho hno (S0.own a (fV.mpr (.inr ha))).2.2
  exact⟨F2,f2,st.fast f2 f3 (hz a ha),S2,bf.mpr ⟨a,vs,rfl,⟨_,f1,rfl,nn,rfl⟩,hd.mono (g.trans f2)⟩⟩
 ·obtain⟨ds,h,rfl⟩:=h
  obtain⟨a,vs,rfl,ht,C⟩:=hZ.mp C
  obtain⟨F2,f2,st2,S2,C2⟩:=ih ds h vs F1 g st S C
  exact⟨F2,f2,st2,S2,cp.mpr ⟨a,vs,rfl,(ht.keeps g).keeps f2,C2⟩⟩
 ·obtain⟨x,xs,h1,h2,rfl⟩:=h
  obtain⟨u,us,rfl,C1,C2⟩:=C
  obtain⟨F2,f2,st2,S2,D2⟩:=ih x h1 u F1 g st S C1
  obtain⟨F3,f3,st3,S3,D3⟩:=ihs xs h2 us F2 (g.trans f2) st2 S2 C2
  exact⟨F3,f2.trans f3,st3,S3,u,us,rfl,CD.mono f3 x u D2,D3⟩
theorem M_{m:Nat}{v:V}{Q:D->Prop}(h:PW μ1 m v Q):∃x,Fz μ1 m v x/\Q x:=
 mZ (P:=fun v=>∃x,Fz μ1 m v x/\Q x) v (fun d q=>⟨d,rfl,q⟩) (fun k q=>by
  obtain⟨hk,mo,hm,q⟩:=q
  revert hm
  exact lY (P:=fun mo=>μ1[k]? =some mo->_) mo (fun l q hm=>⟨.list l,⟨hk,l,hm,rfl⟩,q⟩) (fun l=>TO) (fun l=>TO) (fun a b=>TO) (fun a=>TO) q) (fun i=>TO) (fun i=>TO) TO TO (fun j cs=>TO) (fun l q=>q.elim fun ds q=>⟨.tuple ds,⟨ds,q.1,rfl⟩,q.2⟩) h
theorem HG{K:KV}{w':Wd}{v:V}{u:Value}(S:Sat c w μ)(st:Step c [] w w')(S':Sat c w' μ1)(C:CV c w'.F w'.a v u)(q:PW μ1 μ.length v (nJ μ K μ1)):∃w'',w''.s=w'.s/\Step c [] w w''/\PK c K u w'':=by
 obtain⟨F',a',s'⟩:=w'
 obtain⟨new,e,hn⟩:=st.pre
 cases e
 obtain⟨x,hx,q⟩:=M_ q
 obtain⟨h1,q⟩:=Io q
 rw[<-S.len] at hx h1 q
 obtain⟨F2,f2,st2,S2,C2⟩:=Ph S' (fun b m=>(hn b m).elim id nofun) v x hx u F' .rfl st.Ot (S'.cut (h1 S.cl)) C
 exact⟨⟨F2,w.a,s'⟩,rfl,st2,.of (v:=.d x) S2 C2 q⟩
theorem C_{j:Nat}{f:Fn}{full args:List V}{K:KV}(hj:PT[j]? =some f)(hf:f.full args=some full)(h:aA n f.body ⟨f.vars full,(List.range f.m_.length).map (μ.length+·)⟩ (μ++f.cells full) (aR μ K)):ae (n+1) j args μ K:=by
 intro c A w us a G ha hA S C
 obtain⟨a',i,e,FO⟩:=G.fns j f hj
 cases ha.symm.trans e
 exact t_ G FO hf h hA S C fun u w' fl fr μ1 st S' C' q=>HG S st S' C' q
theorem GC{j:Nat}{f:Fn}{full args:List V}{K:KV}(hj:PT[j]? =some f)(hf:f.full args=some full)(hc:f.m_=[])(h:aA n f.body ⟨f.vars full,[]⟩ μ (P4 K)):ae (n+1) j args μ K:=by
 intro c A w us a G ha hA S C
 obtain⟨a',i,e,FO⟩:=G.fns j f hj
 cases ha.symm.trans e
 refine t_ G FO hf (KK:=P4 K) (by rw[hc];unfold Fn.cells;rw[hc];exact(List.append_nil μ).symm▸h) hA S C fun u w' fl fr μ1 st S' C' q=>⟨w',rfl,st,.of S' C' q⟩
end
theorem zX{M:Model}{A:Around}{s:Shared}{scope:Scope}{globals:Addr}{cl:List (Str×Addr)}{qual:Str}{func:Option Addr}{code:Value}{builtins:Addr}{Q:Env->Shared->Prop}
  (h:∀env,env={scope,locals:=s.heap.objs.size,globals,cells:=cellsFrom (s.heap.objs.size+1) scope.names cl,qual,func,code,frame:=some s.heap.objs.size,builtins}->Q env {s with heap:=pushCells (s.heap.push {cls:=.type "frame",data:=.dict #[]}) scope.names}):
  wpAny M A (newFunctionEnv scope globals cl [] qual func code none builtins) Q xd s:=by
 simp only[newFunctionEnv,Option.isSome_none,Bool.false_eq_true,if_false]
 refine wpAny_bind (wpAny_alloc ?_)
 refine wpAny_bind (wpAny_layCells _ (fun name kind cells=>by cases hkc:kind==NameKind.cell<;>simp) _ _ _ _ ?_)
 rw[show({s with heap:=s.heap.push {cls:=.type "frame",data:=.dict #[]}}:Shared).heap.objs.size=s.heap.objs.size+1 from Heap.size_push ..]
 refine wpAny_bind ?_
 rw[List.forIn_nil]
 exact wpAny_pure (wpAny_pure (h _ rfl))
theorem MS(names:List (Str×NameKind)):gz .cell names=[]->(∀n cl,cellsFrom n names cl=cl)/\∀hh,pushCells hh names=hh:=by
 induction names with
 |nil=>exact fun h=>⟨fun n cl=>rfl,fun hh=>rfl⟩
 |cons p r ih=>
  intro h
  obtain⟨x,k⟩:=p
  rw[tK] at h
  by_cases hk:(k==NameKind.cell)=true
  ·rw[if_pos hk] at h;exact nomatch h
  ·rw[if_neg hk] at h
   refine⟨fun n cl=>?_,fun hh=>?_⟩
   ·unfold cellsFrom;rw[if_neg hk];exact(ih h).1 n cl
   ·unfold pushCells;rw[if_neg hk];exact(ih h).2 hh
theorem Dx(q:Str)(e:Expr)(sc:Scope)(cl:List (Str×Addr))(pm cdv ct:Value):bindArgs (kla_fn "<lambda>" q ⟨[],[],none,[],[],none,[]⟩ e sc cl pm cdv ct) ⟨[],[]⟩=pure []:=rfl
theorem AY{n j:Nat}{cs:List Nat}{body:Ex}{μ:Mu}{K:KV}(hj:LT[j]? =some body)(h:eE n body ⟨[],cs⟩ μ (PO μ K)):Ow (n+1) (.lam j cs) [] μ K:=by
 intro c A w us u G hA S C Cl
 cases Cl
 obtain⟨a,vz,e,sc,rfl,⟨pm,cdv,ct,qual,hf,hcd⟩,hL,hall⟩:=C
 have ha:=S.sub _ _ hf
 refine⟨vn ha rfl,?_⟩
 obtain⟨pp,loose,mean,mg,mb,T⟩:=G.top
 obtain⟨g1,g2,g3,nd,g5⟩:=rt hL.ok
 obtain⟨no1,no2⟩:=MS sc.names hL.own
 obtain⟨body',e1,hc⟩:=G.Pm j _ e hL.b
 cases hj.symm.trans e1
 refine qe (yl hA.room ha rfl g3 g2 (cd:=fun env=>.expr e env) (fun env=>rfl) (fun env=>rfl) (hcd.keeps S.sub) ?_)
 rw[Dx]
 refine wpAny_pure (ij (zX fun env he=>?_))
 show Heap.NoLimit (pushCells _ sc.names)/\cA c.M A (.expr e env) _ {w.s with heap:=pushCells _ sc.names}
 rw[no2]
 have he:env={scope:=sc,locals:=w.h.objs.size,globals:=mainGlobals,cells:=vz,qual:=qual++".<locals>.",func:=some a,code:=cdv,frame:=some w.h.objs.size,builtins:=builtinsNs}:=he.trans (by rw[show(kla_fn "<lambda>" qual ⟨[],[],none,[],[],none,[]⟩ e sc vz pm cdv ct).scope=sc from rfl,no1])
 generalize e1:w.h.push {cls:=.type "frame",data:=.dict #[]}=H
 have k1:Le w.h H:=e1▸Le.push _
 have hns:H.Ns w.h.objs.size fun x=>none:=by rw[<-e1];exact Heap.Ns.new ..
 clear e1
 have xa:Step c [] w ⟨w.F,w.a,{w.s with heap:=H}⟩:=Step.keeps (s:={w.s with heap:=H}) rfl rfl k1
 have Sa:Sat c ⟨w.F,w.a,{w.s with heap:=H}⟩ μ:=S.keep (s:={w.s with heap:=H}) k1
 have pC:Pv c ⟨w.F,w.a,{w.s with heap:=H}⟩ w.h.objs.size:=gu (s:={w.s with heap:=H}) S k1 (cg _) (hns.imp fun o q=>q.elim fun es q=>q.elim fun ep q=>q.1)
 have lk:∀{k x},x∈gz k sc.names->sc.names.lookup x=some k:=fun hx=>ja nd hx
 have hd:=hA.deeper env
 have X:fk c n ⟨A.deeper env,Bu sc,env⟩ ⟨[],cs⟩ ⟨w.F,w.a,{w.s with heap:=H}⟩ μ:=by
  subst he
  refine⟨⟨hd.depth,hd.units,hd.handled,g1,rfl,rfl,fun x hx=>(nomatch hx),fun x hx=>.inr (lk hx),fun x hx=>lk (List.contains_iff_mem.mp hx),fun x hx=>?_,List.nodup_nil,.inl rfl,⟨_,rfl⟩,fun li m q=>(nomatch q)⟩,⟨rfl,⟨fun x=>none,hns,fun i x v e1 e2=>(nomatch List.getElem?_nil.symm.trans e1)⟩,pC,hall⟩,Sa⟩
  exact hx.elim (fun hx=>nomatch hx) fun hx=>hx.elim (fun hx=>g5 _ (bJ.mp hx)) fun hx=>g5 _ (bJ.mp (List.contains_iff_mem.mp hx))
 refine⟨T.nolimit.keeps (Sa.base.trans Sa.sub),Kd (aG ((uj G body).v e ⟨A.deeper env,Bu sc,env⟩ _ _ μ _ hc X h) fun u s q=>?_)⟩
 obtain⟨w2,rfl,st2,v,μ1,S2,C2,q⟩:=q
 refine⟨u,rfl,HG S (xa.trans st2) S2 C2 ?_⟩
 exact aB (P:=fun v=>PW μ1 μ.length v (nJ μ K μ1)) v (fun d q=>q) q
section
noncomputable def sw(μ:Mu)(k:Nat)(d:List UInt8)(p:Nat):Mu:=μ.set k (.wire d (p:Int))
section
variable{μ:Mu}{k:Nat}{d:List UInt8}{p p':Nat}
theorem da:(sw μ k d p).length=μ.length:=List.length_set
theorem FX(hk:k<μ.length):(sw μ k d p)[k]? =some (.wire d (p:Int)):=List.getElem?_set_self hk
theorem lE{j:Nat}(hj:j≠k):(sw μ k d p)[j]? =μ[j]? :=List.getElem?_set_ne (Ne.symm hj)
theorem Mf:(sw μ k d p).set k (.wire d (p':Int))=sw μ k d p':=List.set_set ..
theorem mA(hk:k<μ.length)(l:Mu):sw μ k d p++l=sw (μ++l) k d p:=(List.set_append_left _ _ hk).symm
theorem Hc:(sw μ k d p).take μ.length=sw μ k d p:=List.take_of_length_le (Nat.le_of_eq da)
theorem Kx(hk:k<μ.length)(l:Mu):(sw (μ++l) k d p).take μ.length=sw μ k d p:=by rw[<-mA hk];exact List.take_left' da
theorem IW(h:μ[k]? =some (.wire d (p:Int))):sw μ k d p=μ:=by
 obtain⟨hk,e⟩:=List.getElem?_eq_some_iff.mp h
 unfold sw
 rw[<-e,List.set_getElem_self]
theorem Cj(hk:k<μ.length){x:aI}:(sw (μ++[x]) k d p)[μ.length]? =some x:=by
 rw[lE (Nat.ne_of_gt hk)];exact List.getElem?_concat_length
theorem zg(hk:k<μ.length){x y:aI}:(sw (μ++[x]) k d p).set μ.length y=sw (μ++[y]) k d p:=by
 rw[<-mA hk,<-mA hk,List.set_append_right _ _ (Nat.le_of_eq da),da,Nat.sub_self];rfl
theorem LP(h:Cl (sw μ k d p))(hk:k<μ.length):Cl (sw μ k d p'):=by
 intro j m hj
 by_cases e:j=k
 ·subst e;rw[FX hk] at hj;cases hj;exact True.intro
 ·rw[lE e] at hj
  exact da.trans da.symm▸h j m ((lE e).trans hj)
end
theorem ay{μ:Mu}:Ef none μ:=fun k l h=>nomatch h
section
variable{n i:Nat}{f:Fn}{args full:List V}{μ:Mu}{Q:KV}{vs:List (Option V)}
theorem fA(hf:PT[i]? =some f)(hfull:f.full args=some full)(h:aA n f.body ⟨f.vars full,(List.range f.m_.length).map (μ.length+·)⟩ (μ++f.cells full) (aR μ Q)):ae (n+1) i args μ Q:=C_ hf hfull h
theorem aM(hf:PT[i]? =some f)(hfull:f.full args=some full)(hc:f.m_=[])(hv:f.vars full=vs)(h:aA n f.body ⟨vs,[]⟩ μ (aR μ Q)):ae (n+1) i args μ Q:=by
 refine C_ hf hfull ?_
 unfold Fn.cells
 rw[hc,hv,List.map_nil,List.append_nil]
 exact h
theorem Ml(hf:PT[i]? =some f)(hfull:f.full args=some full)(hc:f.m_=[])(hv:f.vars full=vs)(h:aA n f.body ⟨vs,[]⟩ μ (P4 Q)):ae (n+1) i args μ Q:=GC hf hfull hc (hv▸h)
end
section
variable{μ:Mu}{Q:KV}{x:D}{k p p':Nat}{d:List UInt8}
theorem ab(q:Q (.d x) μ):nJ μ Q μ x:=by unfold nJ;rw[List.take_length];exact⟨id,q⟩
theorem iY{l:Mu}(q:Q (.d x) μ):nJ μ Q (μ++l) x:=by unfold nJ;rw[List.take_left];exact⟨id,q⟩
theorem au(hk:k<μ.length)(q:Q (.d x) (sw μ k d p')):nJ (sw μ k d p) Q (sw μ k d p') x:=by
 unfold nJ;rw[da,Hc];exact⟨fun h=>LP h hk,q⟩
theorem gn{l:Mu}(hk:k<μ.length)(q:Q (.d x) (sw μ k d p')):nJ (sw μ k d p) Q (sw (μ++l) k d p') x:=by
 unfold nJ;rw[da,Kx hk];exact⟨fun h=>LP h hk,q⟩
end
theorem ak{p:Prop}[Decidable p]{A B:Prop}(h:p)(a:A):cond (decide p) A B:=by rw[decide_eq_true h];exact a
theorem ai{p:Prop}[Decidable p]{A B:Prop}(h:¬p)(a:B):cond (decide p) A B:=by rw[decide_eq_false h];exact a
theorem aW{b:Bool}{A B:Prop}(h:b=true)(a:A):cond b A B:=by rw[h];exact a
theorem aZ{b:Bool}{A B:Prop}(h:b=false)(a:B):cond b A B:=by rw[h];exact a
theorem H_{a n:Nat}(h:a<n):place (a:Int) n=some a:=by simp only[place];split<;>simp<;>omega
theorem ah{α:Type}{l:List α}{a:Nat}{x:α}{Q:α->Prop}(h:l[a]? =some x)(hl:l.length<=lim)(q:Q x):w_ l (a:Int) Q:=by
 unfold w_;exact⟨hl,a,x,H_ (List.getElem?_eq_some_iff.mp h).1,h,q⟩
section
variable{μ:Mu}{k p:Nat}{d:List UInt8}{Q:aI->Prop}{x:aI}
theorem aS(e:μ[k]? =some x)(q:Q x):iy μ k Q:=⟨x,e,q⟩
theorem af(hk:k<μ.length)(q:Q (.wire d (p:Int))):iy (sw μ k d p) k Q:=⟨_,FX hk,q⟩
theorem bD(hk:k<μ.length)(q:Q x):iy (sw (μ++[x]) k d p) μ.length Q:=⟨_,Cj hk,q⟩
end
end
section
variable{n:Nat}{μ:Mu}{Q:KV}{a b c d e f g:V}
theorem ph(h:aA n e_.body ⟨[some a],[]⟩ μ (aR μ Q)):ae (n+1) 0 [a] μ Q:=aM nM rfl rfl rfl h
theorem sX(h:aA n el.body ⟨[some a,none,none,none,none],[]⟩ μ (aR μ Q)):ae (n+1) 1 [a] μ Q:=aM rZ rfl rfl rfl h
theorem yk(h:aA n fU.body ⟨[some a,none,none,none,none,none],[]⟩ μ (aR μ Q)):ae (n+1) 2 [a] μ Q:=aM uH rfl rfl rfl h
theorem wX(h:aA n ic.body ⟨[some a],[]⟩ μ (aR μ Q)):ae (n+1) 3 [a] μ Q:=aM sJ rfl rfl rfl h
theorem J7(h:aA n qS.body ⟨[some a],[]⟩ μ (aR μ Q)):ae (n+1) 4 [a] μ Q:=aM Fb rfl rfl rfl h
theorem vD(h:aA n ia.body ⟨[some a],[]⟩ μ (aR μ Q)):ae (n+1) 5 [a] μ Q:=aM sL rfl rfl rfl h
theorem uS(h:aA n iu.body ⟨[some a],[]⟩ μ (aR μ Q)):ae (n+1) 6 [a] μ Q:=aM sP rfl rfl rfl h
theorem vr(h:aA n fc.body ⟨[some a,none],[]⟩ μ (aR μ Q)):ae (n+1) 7 [a] μ Q:=aM tm rfl rfl rfl h
theorem s8(h:aA n eF.body ⟨[some a,none],[]⟩ μ (aR μ Q)):ae (n+1) 8 [a] μ Q:=aM sa rfl rfl rfl h
theorem qP(h:aA n gU.body ⟨[some a,some b,none,none],[]⟩ μ (aR μ Q)):ae (n+1) 9 [a,b] μ Q:=aM yA rfl rfl rfl h
theorem l9(h:aA n gM.body ⟨[some a,none,none,none,none],[]⟩ μ (aR μ Q)):ae (n+1) 10 [a] μ Q:=aM xD rfl rfl rfl h
theorem qA(h:aA n kk.body ⟨[some a],[]⟩ μ (aR μ Q)):ae (n+1) 11 [a] μ Q:=aM zd rfl rfl rfl h
theorem o8(h:aA n jg.body ⟨[some a],[]⟩ μ (aR μ Q)):ae (n+1) 12 [a] μ Q:=aM wH rfl rfl rfl h
theorem A6(h:aA n ke.body ⟨[some a],[]⟩ μ (aR μ Q)):ae (n+1) 13 [a] μ Q:=aM zz rfl rfl rfl h
theorem rD(h:aA n fL.body ⟨[some a],[]⟩ μ (aR μ Q)):ae (n+1) 14 [a] μ Q:=aM px rfl rfl rfl h
theorem rU(h:aA n fD.body ⟨[some a],[]⟩ μ (aR μ Q)):ae (n+1) 15 [a] μ Q:=aM pP rfl rfl rfl h
theorem mO(h:aA n d7.body ⟨[some a],[]⟩ μ (aR μ Q)):ae (n+1) 16 [a] μ Q:=aM l4 rfl rfl rfl h
theorem sT(h:aA n gD.body ⟨[some a],[]⟩ μ (aR μ Q)):ae (n+1) 17 [a] μ Q:=aM sA rfl rfl rfl h
theorem pe(h:aA n eR.body ⟨[some a],[]⟩ μ (aR μ Q)):ae (n+1) 18 [a] μ Q:=aM nO rfl rfl rfl h
theorem tA(h:aA n gw.body ⟨[some a],[]⟩ μ (aR μ Q)):ae (n+1) 19 [a] μ Q:=aM rJ rfl rfl rfl h
theorem zI(h:aA n jr.body ⟨[some a],[]⟩ μ (aR μ Q)):ae (n+1) 20 [a] μ Q:=aM wI rfl rfl rfl h
theorem lF(h:aA n di.body ⟨[some a,none,none],[]⟩ μ (aR μ Q)):ae (n+1) 21 [a] μ Q:=aM ky rfl rfl rfl h
theorem wM(h:aA n hO.body ⟨[some a],[]⟩ μ (aR μ Q)):ae (n+1) 22 [a] μ Q:=aM tD rfl rfl rfl h
theorem GR(h:aA n oC.body ⟨[some a],[]⟩ μ (aR μ Q)):ae (n+1) 23 [a] μ Q:=aM Eh rfl rfl rfl h
theorem yz(h:aA n n5.body ⟨[some a,some b],[]⟩ μ (aR μ Q)):ae (n+1) 24 [a,b] μ Q:=aM Ek rfl rfl rfl h
theorem EY(h:aA n nX.body ⟨[some a,some b,some c],[]⟩ μ (aR μ Q)):ae (n+1) 25 [a,b,c] μ Q:=aM DU rfl rfl rfl h
theorem EI(h:aA n mv.body ⟨[some a],[]⟩ μ (aR μ Q)):ae (n+1) 26 [a] μ Q:=aM Aq rfl rfl rfl h
theorem Iq(h:aA n nD.body ⟨[some a],[]⟩ μ (aR μ Q)):ae (n+1) 27 [a] μ Q:=aM EF rfl rfl rfl h
theorem K3(h:aA n qK.body ⟨[some a,some b,none],[]⟩ μ (aR μ Q)):ae (n+1) 28 [a,b] μ Q:=aM Hp rfl rfl rfl h
theorem yu(h:aA n jj.body ⟨[some a,some b,some c,none],[]⟩ μ (aR μ Q)):ae (n+1) 29 [a,b,c] μ Q:=aM wi rfl rfl rfl h
theorem Fe(h:aA n nN.body ⟨[some a],[]⟩ μ (aR μ Q)):ae (n+1) 30 [a] μ Q:=aM Ec rfl rfl rfl h
theorem Hw(h:aA n nP.body ⟨[some a],[]⟩ μ (aR μ Q)):ae (n+1) 31 [a] μ Q:=aM DB rfl rfl rfl h
theorem uT(h:aA n iq.body ⟨[some a],[]⟩ μ (aR μ Q)):ae (n+1) 32 [a] μ Q:=aM tv rfl rfl rfl h
theorem AI(h:aA n kq.body ⟨[some a,none,none],[]⟩ μ (aR μ Q)):ae (n+1) 33 [a] μ Q:=aM xl rfl rfl rfl h
theorem Ax(h:aA n cZ.body ⟨[some a,none],[]⟩ μ (aR μ Q)):ae (n+1) 34 [a] μ Q:=aM xx rfl rfl rfl h
theorem xY(h:aA n ec.body ⟨[some a,none,none,none],[]⟩ μ (aR μ Q)):ae (n+1) 35 [a] μ Q:=aM wV rfl rfl rfl h
theorem z_(h:aA n kF.body ⟨[some a],[]⟩ μ (aR μ Q)):ae (n+1) 36 [a] μ Q:=aM ym rfl rfl rfl h
theorem hD(h:aA n gg.body ⟨[some a,some b,none],[]⟩ μ (aR μ Q)):ae (n+1) 37 [a,b] μ Q:=aM rX rfl rfl rfl h
theorem oJ(h:aA n jb.body ⟨[some a],[]⟩ μ (aR μ Q)):ae (n+1) 38 [a] μ Q:=aM uV rfl rfl rfl h
theorem oL(h:aA n fS.body ⟨[some a,some b,none],[]⟩ μ (aR μ Q)):ae (n+1) 39 [a,b] μ Q:=aM uK rfl rfl rfl h
theorem pX(h:aA n eQ.body ⟨[some a,none,none],[]⟩ μ (aR μ Q)):ae (n+1) 40 [a] μ Q:=aM oa rfl rfl rfl h
theorem uw(h:aA n eZ.body ⟨[some a,some b,none],[]⟩ μ (aR μ Q)):ae (n+1) 41 [a,b] μ Q:=aM sz rfl rfl rfl h
theorem sf(h:aA n eZ.body ⟨[some a,some (.d (.int 0)),none],[]⟩ μ (aR μ Q)):ae (n+1) 41 [a] μ Q:=aM sz rfl rfl rfl h
theorem lN(h:aA n gi.body ⟨[some a],[]⟩ μ (aR μ Q)):ae (n+1) 42 [a] μ Q:=aM r0 rfl rfl rfl h
theorem pH(h:aA n bT.body ⟨[some a,none,none],[]⟩ μ (aR μ Q)):ae (n+1) 43 [a] μ Q:=aM oq rfl rfl rfl h
theorem nG(h:aA n cX.body ⟨[some a,some b],[]⟩ μ (aR μ Q)):ae (n+1) 44 [a,b] μ Q:=aM gK rfl rfl rfl h
theorem CN(h:aA n cX.body ⟨[some a,some (.d (.bool false))],[]⟩ μ (aR μ Q)):ae (n+1) 44 [a] μ Q:=aM gK rfl rfl rfl h
theorem pM(h:aA n dm.body ⟨[some a,some b],[]⟩ μ (aR μ Q)):ae (n+1) 45 [a,b] μ Q:=aM iV rfl rfl rfl h
theorem nV(h:aA n dm.body ⟨[some a,some (.d (.bool false))],[]⟩ μ (aR μ Q)):ae (n+1) 45 [a] μ Q:=aM iV rfl rfl rfl h
theorem Du(h:aA n b9.body ⟨[some a,some b],[]⟩ μ (aR μ Q)):ae (n+1) 46 [a,b] μ Q:=aM gN rfl rfl rfl h
theorem mX(h:aA n b9.body ⟨[some a,some (.d (.bool false))],[]⟩ μ (aR μ Q)):ae (n+1) 46 [a] μ Q:=aM gN rfl rfl rfl h
theorem IF(h:aA n dc.body ⟨[some a],[μ.length]⟩ (μ++[.cell (some b)]) (aR μ Q)):ae (n+1) 47 [a,b] μ Q:=fA bW rfl h
theorem Gq(h:aA n dc.body ⟨[some a],[μ.length]⟩ (μ++[.cell (some (.d (.int 0)))]) (aR μ Q)):ae (n+1) 47 [a] μ Q:=fA bW rfl h
theorem kG(h:aA n ba.body ⟨[some a,some b,some c,none,none,none,none],[]⟩ μ (aR μ Q)):ae (n+1) 48 [a,b,c] μ Q:=aM pj rfl rfl rfl h
theorem l0(h:aA n ew.body ⟨[some a,some b,none,none,none],[]⟩ μ (aR μ Q)):ae (n+1) 49 [a,b] μ Q:=aM rf rfl rfl rfl h
theorem gS(h:aA n jv.body ⟨[some a],[]⟩ μ (aR μ Q)):ae (n+1) 50 [a] μ Q:=aM va rfl rfl rfl h
theorem sY(h:aA n gp.body ⟨[some a],[]⟩ μ (aR μ Q)):ae (n+1) 51 [a] μ Q:=aM r5 rfl rfl rfl h
theorem rz(h:aA n dP.body ⟨[some a,none,none],[]⟩ μ (aR μ Q)):ae (n+1) 52 [a] μ Q:=aM pW rfl rfl rfl h
theorem sO(h:aA n gq.body ⟨[some a],[]⟩ μ (aR μ Q)):ae (n+1) 53 [a] μ Q:=aM qN rfl rfl rfl h
theorem j_(h:aA n fG.body ⟨[some a],[]⟩ μ (aR μ Q)):ae (n+1) 54 [a] μ Q:=aM pG rfl rfl rfl h
theorem xI(h:aA n jB.body ⟨[some a],[]⟩ μ (aR μ Q)):ae (n+1) 55 [a] μ Q:=aM uQ rfl rfl rfl h
theorem oj(h:aA n eG.body ⟨[some a],[]⟩ μ (aR μ Q)):ae (n+1) 56 [a] μ Q:=aM nu rfl rfl rfl h
theorem rQ(h:aA n dK.body ⟨[some a,none,none,none],[]⟩ μ (aR μ Q)):ae (n+1) 57 [a] μ Q:=aM pL rfl rfl rfl h
theorem oi(h:aA n ed.body ⟨[some a],[]⟩ μ (aR μ Q)):ae (n+1) 58 [a] μ Q:=aM mR rfl rfl rfl h
theorem jF(h:aA n dw.body ⟨[some a,none],[]⟩ μ (aR μ Q)):ae (n+1) 59 [a] μ Q:=aM n7 rfl rfl rfl h
theorem jk(h:aA n ip.body ⟨[some a],[]⟩ μ (aR μ Q)):ae (n+1) 60 [a] μ Q:=aM tj rfl rfl rfl h
theorem ei(h:aA n cL.body ⟨[some a,none,none],[]⟩ μ (aR μ Q)):ae (n+1) 61 [a] μ Q:=aM pQ rfl rfl rfl h
theorem ng(h:aA n cz.body ⟨[some a,none],[]⟩ μ (aR μ Q)):ae (n+1) 62 [a] μ Q:=aM l7 rfl rfl rfl h
theorem gx(h:aA n fM.body ⟨[some a],[]⟩ μ (aR μ Q)):ae (n+1) 63 [a] μ Q:=aM pA rfl rfl rfl h
theorem rN(h:aA n fI.body ⟨[some a],[]⟩ μ (aR μ Q)):ae (n+1) 64 [a] μ Q:=aM pg rfl rfl rfl h
theorem r_(h:aA n fE.body ⟨[some a],[]⟩ μ (aR μ Q)):ae (n+1) 65 [a] μ Q:=aM pB rfl rfl rfl h
theorem yN(h:aA n jn.body ⟨[some a],[]⟩ μ (aR μ Q)):ae (n+1) 66 [a] μ Q:=aM vC rfl rfl rfl h
theorem rF(h:aA n j3.body ⟨[some a],[]⟩ μ (aR μ Q)):ae (n+1) 67 [a] μ Q:=aM xQ rfl rfl rfl h
theorem Ky(h:aA n r8.body ⟨[],[μ.length]⟩ (μ++[.cell (some a)]) (aR μ Q)):ae (n+1) 68 [a] μ Q:=fA H6 rfl h
theorem rx(h:aA n jP.body ⟨[some a,some b],[]⟩ μ (aR μ Q)):ae (n+1) 69 [a,b] μ Q:=aM yH rfl rfl rfl h
theorem oU(h:aA n ek.body ⟨[some a,none],[]⟩ μ (aR μ Q)):ae (n+1) 70 [a] μ Q:=aM vO rfl rfl rfl h
theorem jS(h:aA n fN.body ⟨[some a,none],[]⟩ μ (aR μ Q)):ae (n+1) 71 [a] μ Q:=aM pU rfl rfl rfl h
theorem rA(h:aA n dM.body ⟨[some a,none],[]⟩ μ (aR μ Q)):ae (n+1) 72 [a] μ Q:=aM o_ rfl rfl rfl h
theorem vH(h:aA n ib.body ⟨[some a,none],[]⟩ μ (aR μ Q)):ae (n+1) 73 [a] μ Q:=aM sV rfl rfl rfl h
theorem vf(h:aA n fi.body ⟨[some a,none],[]⟩ μ (aR μ Q)):ae (n+1) 74 [a] μ Q:=aM th rfl rfl rfl h
theorem zc(h:aA n iZ.body ⟨[some a,none,none],[]⟩ μ (aR μ Q)):ae (n+1) 75 [a] μ Q:=aM vR rfl rfl rfl h
theorem sQ(h:aA n dh.body ⟨[some a,some b,some c,none,none],[]⟩ μ (aR μ Q)):ae (n+1) 76 [a,b,c] μ Q:=aM qB rfl rfl rfl h
theorem pR(h:aA n dr.body ⟨[some b,none],[μ.length]⟩ (μ++[.cell (some a)]) (aR μ Q)):ae (n+1) 77 [a,b] μ Q:=fA nW rfl h
theorem Ao(h:aA n gJ.body ⟨[some b,none,none],[μ.length]⟩ (μ++[.cell (some a)]) (aR μ Q)):ae (n+1) 78 [a,b] μ Q:=fA yv rfl h
theorem dp(h:aA n ir.body ⟨[some a,some b,none,none,none,none],[]⟩ μ (aR μ Q)):ae (n+1) 79 [a,b] μ Q:=aM tn rfl rfl rfl h
theorem jJ(h:aA n dq.body ⟨[some a,none,none],[]⟩ μ (aR μ Q)):ae (n+1) 80 [a] μ Q:=aM oo rfl rfl rfl h
theorem ig(h:aA n ej.body ⟨[some a,none,none,none],[]⟩ μ (aR μ Q)):ae (n+1) 81 [a] μ Q:=aM sh rfl rfl rfl h
theorem sb(h:aA n dR.body ⟨[some a,none,none,none],[]⟩ μ (aR μ Q)):ae (n+1) 82 [a] μ Q:=aM pO rfl rfl rfl h
theorem xu(h:aA n i_.body ⟨[],[]⟩ μ (aR μ Q)):ae (n+1) 83 [] μ Q:=aM vQ rfl rfl rfl h
theorem Kf(h:aA n rh.body ⟨[some a],[]⟩ μ (P4 Q)):ae (n+1) 84 [a] μ Q:=Ml Ik rfl rfl rfl h
theorem Ij(h:aA n nE.body ⟨[some a,some b,none,none,none],[]⟩ μ (aR μ Q)):ae (n+1) 85 [a,b] μ Q:=aM DR rfl rfl rfl h
theorem B_(h:aA n rK.body ⟨[some a,some b],[]⟩ μ (aR μ Q)):ae (n+1) 86 [a,b] μ Q:=aM Hj rfl rfl rfl h
theorem Bj(h:aA n jX.body ⟨[some a],[]⟩ μ (aR μ Q)):ae (n+1) 87 [a] μ Q:=aM xT rfl rfl rfl h
theorem F7(h:aA n nR.body ⟨[some a,some b],[]⟩ μ (aR μ Q)):ae (n+1) 88 [a,b] μ Q:=aM DQ rfl rfl rfl h
theorem A5(h:aA n ku.body ⟨[some a,some b,none,none],[]⟩ μ (aR μ Q)):ae (n+1) 89 [a,b] μ Q:=aM yc rfl rfl rfl h
theorem A7(h:aA n kz.body ⟨[some a],[]⟩ μ (aR μ Q)):ae (n+1) 90 [a] μ Q:=aM zH rfl rfl rfl h
theorem AU(h:aA n c_.body ⟨[some a,some b,none,none,none,none],[]⟩ μ (aR μ Q)):ae (n+1) 91 [a,b] μ Q:=aM x_ rfl rfl rfl h
theorem DS(h:aA n bu.body ⟨[none,none,none,none],[μ.length,μ.length+1]⟩ (μ++[.cell (some a),.cell (some b)]) (aR μ Q)):ae (n+1) 92 [a,b] μ Q:=fA zW rfl h
theorem D6(h:aA n ml.body ⟨[none,none],[μ.length]⟩ (μ++[.cell (some a)]) (aR μ Q)):ae (n+1) 93 [a] μ Q:=fA Ar rfl h
theorem DZ(h:aA n d6.body ⟨[none,none,none,none,none,none,none,none,none,none,none,none],[μ.length,μ.length+1]⟩ (μ++[.cell (some a),.cell none]) (aR μ Q)):ae (n+1) 94 [a] μ Q:=fA Bq rfl h
theorem u_(h:aA n b_.body ⟨[some a,none,none,none,none,none,none,none,none,none,none,none,none],[μ.length]⟩ (μ++[.cell none]) (aR μ Q)):ae (n+1) 95 [a] μ Q:=fA tB rfl h
theorem KQ(h:aA n dj.body ⟨[none,none,none,none,none,none,none,none,none,none,none,none,none,none],[μ.length]⟩ (μ++[.cell (some a)]) (aR μ Q)):ae (n+1) 96 [a] μ Q:=fA HH rfl h
theorem Dl(h:aA n aY.body ⟨[none,none,none,none,none,none,none,none,none,none,none,none,none,none,none,none,none,none],[μ.length,μ.length+1]⟩ (μ++[.cell (some a),.cell none]) (aR μ Q)):ae (n+1) 97 [a] μ Q:=fA AE rfl h
theorem Ah(h:aA n kK.body ⟨[some a,none,none],[]⟩ μ (aR μ Q)):ae (n+1) 98 [a] μ Q:=aM xN rfl rfl rfl h
theorem OM(h:aA n vX.body ⟨[some a,none,none,none,none,none,none],[μ.length]⟩ (μ++[.cell none]) (aR μ Q)):ae (n+1) 99 [a] μ Q:=fA Mk rfl h
end
section
theorem Gr{l:List (Option V)}{i j:Nat}{v:V}:iE (du l i v) j=iE l j:=by
 induction l generalizing i j with
 |nil=>rfl
 |cons a l ih=>
  cases i with
  |zero=>cases j<;>rfl
  |succ i=>cases j with
   |zero=>rfl
   |succ j=>exact ih
theorem AL(l:List (Option V))(i:Nat)(x y:V):du (du l i x) i y=du l i y:=by rw[fX,fX,fX,List.set_set]
def Var(vs0:List (Option V))(i:Nat)(vs:List (Option V)):Prop:=vs=vs0\/∃x,vs=du vs0 i x
theorem Var.same{vs0:List (Option V)}{i:Nat}:Var vs0 i vs0:=.inl rfl
theorem Var.set{vs0:List (Option V)}{i:Nat}(x:V):Var vs0 i (du vs0 i x):=.inr ⟨x,rfl⟩
@[elab_as_elim]theorem Var.on{vs0 vs:List (Option V)}{i:Nat}{P:List (Option V)->Prop}(h:Var vs0 i vs)(a:P vs0)(b:∀x,P (du vs0 i x)):P vs:=h.elim (fun e=>e▸a) fun q=>q.elim fun x e=>e▸b x
theorem Var.Qd{vs0 vs:List (Option V)}{i:Nat}(h:Var vs0 i vs)(v:V):du vs i v=du vs0 i v:=h.elim (fun e=>e▸rfl) fun q=>q.elim fun x e=>e▸AL _ _ _ _
theorem Var.has{vs0 vs:List (Option V)}{i j:Nat}(h:Var vs0 i vs):iE vs j=iE vs0 j:=h.elim (fun e=>e▸rfl) fun q=>q.elim fun x e=>e▸Gr
theorem x9{n i:Nat}{v:V}{vs vs0:List (Option V)}{cs:List Nat}{μ:Mu}{Q:KF}(hv:Var vs0 i vs)(hi:iE vs0 i=true)(h:Q ⟨du vs0 i v,cs⟩ μ):eA n (.lv i) v ⟨vs,cs⟩ μ Q:=by
 show cond (iE vs i) (Q ⟨du vs i v,cs⟩ μ) False
 rw[hv.has,hi,hv.Qd]
 exact h
theorem tN{α:Type}{n:Nat}{elt:Ex}{i:Nat}{cs:List Nat}{μ:Mu}(val:α->V)(out:α->D){vs0:List (Option V)}(hi:iE vs0 i=true)(l:List α):∀{vs:List (Option V)} {Q:KD},Var vs0 i vs->
  (∀x∈l,∀K:KV,K (.d (out x)) μ->eE n elt ⟨du vs0 i (val x),cs⟩ μ K)->Q (l.map out) μ->wC n elt (.lv i) [] (l.map val) none ⟨vs,cs⟩ μ Q:=by
 induction l with
 |nil=>exact fun hv h q=>fJ ay q
 |cons x l ih=>exact fun{vs Q} hv h q=>bZ ay (x9 hv hi (h x (.head _) _ (ih (Q:=fun ds=>Q (out x::ds)) (.set _) (fun y hy=>h y (.tail _ hy)) q)))
theorem vJ{α:Type}{n:Nat}{elt:Ex}{i:Nat}{cs:List Nat}{t:Ts}{μ:Mu}(val:α->V)(out:α->D)(f:α->Bool){vs0:List (Option V)}(hi:iE vs0 i=true)(l:List α):∀{vs:List (Option V)} {Q:KD},Var vs0 i vs->
  (∀x∈l,∀K:KB,K (f x) μ->eT n t ⟨du vs0 i (val x),cs⟩ μ K)->
  (∀x∈l,∀K:KV,K (.d (out x)) μ->eE n elt ⟨du vs0 i (val x),cs⟩ μ K)->Q ((l.filter f).map out) μ->wC n elt (.lv i) [t] (l.map val) none ⟨vs,cs⟩ μ Q:=by
 induction l with
 |nil=>exact fun hv ht h q=>fJ ay q
 |cons x l ih=>
  intro vs Q hv ht h q
  refine bZ ay (x9 hv hi (ht x (.head _) _ ?_))
  have go:∀{Q:KD},Q ((l.filter f).map out) μ->wC n elt (.lv i) [t] (l.map val) none ⟨du vs0 i (val x),cs⟩ μ Q:=ih (.set _) (fun y hy=>ht y (.tail _ hy)) (fun y hy=>h y (.tail _ hy))
  cases hf:f x with
  |true=>
   rw[List.filter_cons_of_pos hf] at q
   exact h x (.head _) _ (go (Q:=fun ds=>Q (out x::ds)) q)
  |false=>
   rw[List.filter_cons_of_neg (by rw[hf];exact Bool.false_ne_true)] at q
   exact go q
theorem yx{α:Type}{n:Nat}{b:List St}{i:Nat}{cs:List Nat}{μ:Mu}(val:α->V){vs0:List (Option V)}(hi:iE vs0 i=true)(l:List α):∀{vs:List (Option V)} {Q:KS},Var vs0 i vs->
  (∀x∈l,∀K:KS,K .next ⟨du vs0 i (val x),cs⟩ μ->aA n b ⟨du vs0 i (val x),cs⟩ μ K)->(∀vs',Var vs0 i vs'->Q .next ⟨vs',cs⟩ μ)->wF n (.lv i) (l.map val) none b ⟨vs,cs⟩ μ Q:=by
 induction l with
 |nil=>exact fun hv h q=>n8 ay (q _ hv)
 |cons x l ih=>exact fun hv h q=>kM ay (x9 hv hi (h x (.head _) _ (ih (.set _) (fun y hy=>h y (.tail _ hy)) q)))
section
variable{n nl:Nat}{elt:Ex}{tg:Tg}{ifs:List Ts}{g:Option (Nat×List D)}{μ:Mu}{Q:KV}{items:List V}{cs:List Nat}
theorem mz(hl:items.length<=lim)(h:wC n elt tg ifs items g ⟨List.replicate nl none,cs⟩ μ (Gf μ Q)):DO n false elt tg ifs nl 0 (some cs) Q items g μ:=by
 unfold DO
 refine⟨hl,?_⟩
 show wC n elt tg ifs items g _ (μ++[]) _
 rw[List.append_nil];exact h
theorem Oq(hl:items.length<=lim)(h:wC n elt tg ifs items g ⟨List.replicate nl none,cs⟩ μ (AG Q)):DO n true elt tg ifs nl 0 (some cs) Q items g μ:=by
 unfold DO;exact⟨hl,rfl,h⟩
theorem id_map{α:Type}{f:α->D}{l:List α}{Q:KI}(hl:l.length<=lim)(q:Q ((l.map f).map V.d) none μ):L3 Q μ (l.map f):=⟨by rw[TN];exact hl,q⟩
theorem aQ{α:Type}{i:Nat}{f:α->D}{l:List α}(out:α->D)(hi:iE (List.replicate nl none) i=true)(hl:l.length<=lim)(h:∀x∈l,∀K:KV,K (.d (out x)) μ->eE n elt ⟨du (List.replicate nl none) i (.d (f x)),cs⟩ μ K)(q:Q (.d (.list (l.map out))) μ):
  DO n false elt (.lv i) [] nl 0 (some cs) Q ((l.map f).map V.d) none μ:=by
 rw[List.map_map]
 exact mz (by rw[TN];exact hl) (tN (fun x=>V.d (f x)) out hi l .same h (ab q))
end
noncomputable def St.wt:St->Ts|.sR t b=>t|.aT t a b=>t|_=>.bool true []
noncomputable def St.wb:St->List St|.sR t b=>b|.FN a c b=>b|.aT t b a=>b|_=>[]
noncomputable def Fn.at(f:Fn)(i:Nat):St:=f.body.getD i .stop
abbrev vg(n:Nat)(s:St)(fr:Fr)(μ:Mu)(Q:KS):Prop:=wW n s.wt s.wb fr μ Q
theorem bh{k:Nat}{μ l:Mu}(hk:k<μ.length):k<(μ++l).length:=Nat.lt_of_lt_of_le hk (TM▸Nat.le_add_right ..)
section
variable{μ:Mu}{k:Nat}{d:List UInt8}{p p':Nat}{Q:KV}{K:Mu->Prop}{x y:aI}
theorem qZ(q:Q (.loc μ.length) (μ++[x])):w9 x μ Q:=by unfold w9;exact q
theorem yU(hk:k<μ.length)(q:Q (.loc μ.length) (sw (μ++[x]) k d p)):w9 x (sw μ k d p) Q:=by unfold w9;rw[da,mA hk];exact q
theorem yS(p':Nat)(q:K (sw μ k d p')):lX k (.wire d (p':Int)) (sw μ k d p) K:=by unfold lX;rw[Mf];exact q
theorem N9(hk:k<μ.length)(q:K (sw (μ++[y]) k d p)):lX μ.length y (sw (μ++[x]) k d p) K:=by unfold lX;rw[zg hk];exact q
theorem wD(q:K (μ++[y])):lX μ.length y (μ++[x]) K:=by unfold lX;rw[List.set_append_right _ _ (TG _),Nat.sub_self];exact q
end
theorem LL{μ:Mu}{k:Nat}{acc:List UInt8}{c:UInt8}{Q:KV}(hz:acc.length<lim)(q:lX k (.eX (acc++[c])) μ (Q .none)):mY (fun l=>0<=(c.toNat:Int)/\(c.toNat:Int)<256/\l.length<lim/\lX k (.eX (l++[UInt8.ofNat (c.toNat:Int).toNat])) μ (Q .none)) (.eX acc):=
 ⟨Int.natCast_nonneg _,Int.ofNat_lt.mpr (UInt8.toNat_lt c),hz,(Oo c).symm▸q⟩
theorem ne1{α:Type}{a b:α}(h:¬a=b):¬[a]=[b]:=fun e=>h (List.cons.inj e).1
theorem il{a b:Nat}(h:a<b):(a:Int)<(b:Int):=Int.ofNat_lt.mpr h
theorem cN{a b:Nat}(h:a<=b):(a:Int)<=(b:Int):=Int.ofNat_le.mpr h
end
noncomputable def k_(stp:SharedT->Thread->Option (SharedT×Thread))(ok:Thread->Bool):Nat->SharedT->Thread->Option SharedT
 |0,_,_=>none
 |n+1,s,t=>match through t with
  |true=>some s
  |false=>match ok t with
   |false=>none
   |true=>match stp s t with
    |some x=>k_ stp ok n x.1 x.2
    |none=>none
noncomputable def Ie(p:Program)(w:World):=Fast.tw10156331382660048174 (Fast.tw11892475500146522536 Fast.tw14364793385576792824) p w
noncomputable def RK:=Fast.tw6613529449190102663 11 (some (Value.ref 6))
noncomputable def ins(l:List Obj):BT:=(l.foldl (fun(t:BT×Nat) o=>(t.1.ins t.2 o,t.2+1)) (BT.nil,0)).1
noncomputable def Sg(w:World)(os:OsState):SharedT:=⟨ins (boot_heap w.params).objs.toList,11,{},#[],boot_drawn,boot_toks,os⟩
theorem Hh(p:Program)(w:World):Ie p w=stepT (denote treeTable) p w:=by
 unfold Ie
 rw[<-Fast.te10156331382660048174,<-Fast.te11892475500146522536,<-Fast.te14364793385576792824]
theorem Mo:RK=stepOk 11 (some (Value.ref 6)):=by
 unfold RK
 rw[<-Fast.te6613529449190102663]
theorem mF{p:Program}{w:World}{m:Nat}{ann:Option Value}:∀(n:Nat) (s:SharedT) (t:Thread) (s':SharedT),k_ (stepT (denote treeTable) p w) (stepOk m ann) n s t=some s'->topRun treeTable p w m ann n s.abs t=some s'.abs
 |0,_,_,_,h=>by simp[k_] at h
 |n+1,s,t,s',h=>by
  unfold k_ at h
  unfold topRun
  cases ht:through t with
  |true=>rw[ht] at h;exact congrArg some (congrArg SharedT.abs (Option.some.inj h))
  |false=>
   rw[ht] at h
   cases hk:stepOk m ann t with
   |false=>rw[hk] at h;cases h
   |true=>
    rw[hk] at h
    cases hs:stepT (denote treeTable) p w s t with
    |none=>rw[hs] at h;cases h
    |some r=>
     obtain⟨s₂,t₂⟩:=r
     rw[hs] at h
     dsimp only at h⊢
     rw[stepT_spec hs]
     exact mF n s₂ t₂ s' h
theorem Jh(w:World)(os:OsState):(Sg w os).abs=⟨boot_heap w.params,#[],boot_drawn,boot_toks,os⟩:=by
 kernel_rfl
noncomputable abbrev pw:=PySem.Challenge.pw_pq0957_01
noncomputable abbrev fT:=PySem.Challenge.rw_pq0957_01
theorem Pg:opening pw=plainProg pw.main.scope.names:=by kernel_rfl
theorem PD:bearImports pw.main.body=false:=by kernel_rfl
theorem N7:∀w:World,(fencedOpening treeTable pw w 6000).map (fun s=>(s.heap,s.gens,s.drawn,s.toks))=some (boot_heap w.params,Array.mk [],boot_drawn,boot_toks):=by
 refine boot_open Pg rfl ?_
 exact fenceModules_id _ PD
theorem Oh:∀w:World,((boot_heap w.params).isNs mainGlobals&&(Array.mk ([]:List GenState)).size==0,(boot_heap w.params).objs.size,(boot_heap w.params).nsMap mainGlobals "__annotations__")=(true,11,some (.ref 6)):=by
 intro w;kernel_rfl
theorem Gw{p q:Program}{loose:List Str}{α:Type}{Xt:Shared->Bool}{g0:Bool}{Yf:Shared->α}{Ya:World->α}{N:Nat}{H₀:Params->Heap}{gs₀:Array GenState}{d₀:Drawn}{k₀:Nat}{m₀:Nat}{ann:Option Value}
  (open_:∀w:World,(fencedOpening treeTable p w N).map (fun s=>(s.heap,s.gens,s.drawn,s.toks))=some (H₀ w.params,gs₀,d₀,k₀))
  (size:∀w:World,((H₀ w.params).isNs mainGlobals&&gs₀.size==0,(H₀ w.params).objs.size,(H₀ w.params).nsMap mainGlobals "__annotations__")=(true,m₀,ann))
  (run:∀(w:World) (os:OsState),∃S,topRun treeTable p w m₀ ann N ⟨H₀ w.params,gs₀,d₀,k₀,os⟩ (topStub p)=some S/\
   (staticsOk (importedModules p.main.body) (H₀ w.params) S.heap&&namesBound p S.heap&&gensDone S&&laidKept (H₀ w.params) S.heap)=true/\
   openSeen q loose (importedModules p.main.body) Xt g0 S=openGood q loose/\Yf S=Ya w):LeftO p q loose Xt Yf Ya N g0:=fun w=>by
 obtain⟨⟨h,gs,d,k,os⟩,e,e'⟩:=Option.map_eq_some_iff.mp (open_ w)
 obtain⟨rfl,rfl,rfl,rfl⟩:h=H₀ w.params/\gs=gs₀/\d=d₀/\k=k₀:=by simpa using e'
 obtain⟨z1,z2,z3⟩:_/\_/\_:=by simpa only[Prod.mk.injEq] using size w
 obtain⟨S,r,l1,l2,l3⟩:=run w os
 have t:topFrom treeTable p w N ⟨H₀ w.params,gs,d,k,os⟩=some S:=by
  unfold topFrom
  dsimp only
  rw[z1,z2,z3,r]
  show(match staticsOk (importedModules p.main.body) (H₀ w.params) S.heap&&namesBound p S.heap&&gensDone S&&laidKept (H₀ w.params) S.heap with|true=>_|false=>_)=_
  rw[l1]
 unfold openEnds
 rw[e]
 show(topFrom treeTable p w N _).map _=_
 rw[t]
 exact congrArg some (Prod.ext l2 l3)
theorem JK{p:Program}{w:World}{m:Nat}{ann:Option Value}{N:Nat}{s:SharedT}{s₀ S:Shared}{t:Thread}{S':SharedT}{stp:SharedT->Thread->Option (SharedT×Thread)}{ok:Thread->Bool}
  (h:k_ stp ok N s t=some S') (e1:stp=stepT (denote treeTable) p w) (e2:ok=stepOk m ann) (e3:s.abs=s₀):topRun treeTable p w m ann N s₀ t=some S'.abs:=by
 subst e1 e2 e3
 exact mF _ _ _ _ h
structure FI where
 pl:Nat
 m:Nat
 a:Nat
 d:Nat
 n:String
noncomputable abbrev sS(s:String):Str:=Str.ofString s
noncomputable abbrev FI.q(i:FI):Str:=cond (i.m==0) (sS i.n) (sS "Wire."++sS i.n)
noncomputable abbrev FI.c(i:FI):Nat:=i.a-1
noncomputable def sF:List FI:=[⟨17,0,152,0,"is_plain_code"⟩,⟨21,0,180,0,"utf7_octets"⟩,⟨25,0,208,0,"utf7_text"⟩,⟨28,0,215,0,"lower_code"⟩,⟨29,0,220,0,"lower"⟩,⟨30,0,225,0,"lower_text"⟩,
⟨31,0,230,0,"upper_text"⟩,⟨32,0,235,0,"ascii_text"⟩,⟨33,0,240,0,"text_octets"⟩,⟨36,0,247,0,"read_end"⟩,⟨37,0,254,0,"read_set"⟩,⟨38,0,261,0,"show_end"⟩,
⟨39,0,268,0,"show_pair"⟩,⟨40,0,273,0,"show_set"⟩,⟨51,0,308,0,"is_printable"⟩,⟨52,0,315,0,"is_atom_code"⟩,⟨53,0,322,0,"is_astring_code"⟩,⟨54,0,329,0,"is_tag_code"⟩,
⟨55,0,336,0,"is_value_code"⟩,⟨56,0,343,0,"is_set_code"⟩,⟨57,0,350,0,"is_figure"⟩,⟨58,0,357,0,"number_of_figures"⟩,⟨59,0,364,0,"figures_of"⟩,⟨60,3,393,0,"peek"⟩,
⟨60,4,400,0,"skip"⟩,⟨60,5,407,0,"need"⟩,⟨60,6,414,0,"space"⟩,⟨60,7,421,0,"done"⟩,⟨60,8,428,0,"run"⟩,⟨60,9,435,0,"word_of"⟩,
⟨60,10,442,0,"atom"⟩,⟨60,11,449,0,"word"⟩,⟨60,13,463,0,"set_text"⟩,⟨60,15,477,0,"number"⟩,⟨60,16,484,0,"quoted"⟩,⟨60,17,491,0,"literal"⟩,
⟨60,18,498,0,"string"⟩,⟨60,19,505,0,"string_or"⟩,⟨60,20,512,0,"astring"⟩,⟨60,23,533,0,"list_of"⟩,⟨60,24,538,0,"plain_value"⟩,⟨60,25,546,539,"value"⟩,
⟨61,0,558,0,"is_quotable"⟩,⟨62,0,565,0,"quoted_octets"⟩,⟨63,0,573,566,"literal_octets"⟩,⟨64,0,581,574,"string_octets"⟩,⟨65,0,587,582,"astring_octets"⟩,⟨66,0,593,588,"write_value"⟩,
⟨67,0,600,0,"literal_head"⟩,⟨68,0,607,0,"command_end"⟩,⟨71,0,612,0,"told_part"⟩,⟨72,0,619,0,"told_answer"⟩,⟨73,0,626,0,"checked_text"⟩,⟨74,0,633,0,"name_octets"⟩,
⟨75,0,638,0,"words_octets"⟩,⟨76,0,643,0,"bracketed"⟩,⟨77,0,648,0,"numbers_octets"⟩,⟨78,0,655,0,"pairs_octets"⟩,⟨79,0,660,0,"fetched_octets"⟩,⟨80,0,665,0,"status_octets"⟩,
⟨81,0,672,0,"box_octets"⟩,⟨82,0,679,0,"found_octets"⟩,⟨83,0,686,0,"untagged_octets"⟩,⟨84,0,693,0,"write_answer"⟩,⟨85,0,700,0,"is_name_code"⟩,⟨86,0,707,0,"is_text_code"⟩,
⟨87,0,714,0,"wire_word"⟩,⟨88,0,721,0,"box_name"⟩,⟨89,0,728,0,"atoms"⟩,⟨90,0,733,0,"flags_or"⟩,⟨91,0,738,0,"item_name"⟩,⟨92,0,745,0,"fetched_pair"⟩,
⟨93,0,752,0,"wire_numbers"⟩,⟨94,0,759,0,"found_pair"⟩,⟨95,0,766,0,"wire_words"⟩,⟨96,0,771,0,"rest_text"⟩,⟨97,0,778,0,"status_here"⟩,⟨98,0,785,0,"numbered_here"⟩,
⟨99,0,792,0,"box_here"⟩,⟨100,0,797,0,"found_here"⟩,⟨101,0,804,0,"untagged_here"⟩,⟨102,0,811,0,"read_answer"⟩,⟨103,0,818,0,"read_answers"⟩,⟨106,0,826,0,"_law_strings"⟩,
⟨108,0,838,0,"_law_ink"⟩,⟨109,0,845,0,"_law_drop"⟩,⟨110,0,852,0,"_law_one"⟩,⟨111,0,857,0,"_law_octets"⟩,⟨112,0,864,0,"_law_word"⟩,⟨113,0,871,0,"_law_number"⟩,
⟨114,0,878,0,"_law_quoted"⟩,⟨115,0,883,0,"_law_string"⟩,⟨116,0,888,0,"_law_value"⟩,⟨117,0,893,0,"_law_flags"⟩,⟨118,0,898,0,"_law_ended"⟩,⟨119,0,903,0,"_law_numbered"⟩,
⟨120,0,908,0,"_law_box"⟩,⟨121,0,913,0,"_law_found"⟩,⟨122,0,920,0,"_law_answer"⟩,⟨123,0,925,0,"law"⟩]
noncomputable def Lx:List (String×D):=[("CRLF",.bytes [13,10]),
("MOST",.int 4294967295),
("QUOTE",.int 34),
("BACKSLASH",.int 92),
("MOST_DEPTH",.int 30),
("MOST_FIGURES",.int 19),
("MOST_COUNT_FIGURES",.int 10),
("MOST_QUOTED",.int 72),
("SPECIALS",.bytes [40,41,123,37,42,34,92,93]),
("VALUE_SPECIALS",.bytes [40,41,123,34,93]),
("STATES",.str [79,75,32,78,79,32,66,65,68,32,66,89,69,32,80,82,69,65,85,84,72]),
("_law_texts",.tuple [(.str [100,111,110,101]),(.str []),(.str [97,32,123,51,125,32,98]),(.str [42,32,79,75]),(.str [120,93,32,121,32,53])]),
("_law_names",.tuple [(.tuple [(.str [73,78,66,79,88]),(.bool true)]),(.tuple [(.str [97,32,98]),(.bool false)]),(.tuple [(.str []),(.bool false)]),(.tuple [(.str [110,105,108]),(.bool true)]),(.tuple [(.str [120,47,121,93]),(.bool true)]),(.tuple [(.str [40]),(.bool false)])])]
noncomputable abbrev Lg:Nat:=549
noncomputable abbrev Iz:Nat:=297
noncomputable def fF:List zU:=[⟨727,723,⟨569,30,0,0⟩,sS "atoms.<locals>.<lambda>"⟩,⟨784,780,⟨636,48,0,0⟩,sS "numbered_here.<locals>.<lambda>"⟩,⟨791,787,⟨644,51,0,0⟩,sS "box_here.<locals>.<lambda>"⟩]
noncomputable def PU:Value->Str
 |.builtin s=>sS s
 |.type s=>sS s
 |_=>sS ""
noncomputable def HP(x:Str):V->Bool
 |.fn i=>oS sF[i]? fun f=>f.m==0&&sS f.n==x
 |.d d=>Lx.any fun e=>sS e.1==x&&Qj e.2 d
 |.bi b=>PU (ER b)==x
 |.lU=>sS "Atom"==x
 |.tS=>sS "Wire"==x
 |_=>false
noncomputable def LQ(x:Str):Mt->Bool
 |.own i=>oS sF[i]? fun f=>f.m != 0&&sS f.n==x
 |m=>FC m==some x
noncomputable def gL(code:Value)(p:Pos):Bool:=fF.any fun li=>code==.ref li.c&&p.line==li.pos.line&&p.col==li.pos.col
noncomputable def gT:Gt:=⟨HP,LQ,gL,fun j ct e=>oS LT[j]? fun b=>cE ⟨HP,LQ,gL,n3⟩ b ct e⟩
theorem Kb{j:Nat}{ct:Ct}{e:Expr}(h:gT.IH j ct e=true):∃b,LT[j]? =some b/\cE gT b ct e=true:=by
 match j,h with
 |0,h=>exact⟨_,rfl,h⟩
 |1,h=>exact⟨_,rfl,h⟩
 |2,h=>exact⟨_,rfl,h⟩
noncomputable def Cg:Stmt->Option (Arguments×List Stmt×Scope)
 |.FunctionDef m a b _ _ _ sc .. =>some (a,b,sc)
 |_=>none
noncomputable def defAt(i:FI):Option (Arguments×List Stmt×Scope):=pw.main.body[i.pl]?.bind fun st=>match i.m with
 |0=>Cg st
 |k+1=>match st with
  |.ClassDef _ _ _ b .. =>b[k]?.bind Cg
  |_=>none
noncomputable def vt(a:Arguments):Bool:=a.posonlyargs.isEmpty&&a.vararg.isNone&&a.kwonlyargs.isEmpty&&a.kw_defaults.isEmpty&&a.kwarg.isNone
noncomputable def Sx(i:FI)(f:Fn):Bool:=oS (defAt i) fun x=>cond (vt x.1) (have ps:=x.1.args.map (·.arg);have ct:=ji x.2.2 (.ref i.c)
 decide ps.Nodup&&f.np==ps.length&&Nat.ble f.defs.length f.np&&tc x.2.2&&(pick .free x.2.2).isEmpty&&f.DK==srcOf ps ct.locs&&f.m_==srcOf ps (pick .cell x.2.2)&&
  (ps.all fun x=>ct.locs.contains x||ct.cells.contains x)&&(fF.all fun li=> !(i.c==li.c)||(i.q++sS ".<locals>.")++sS "<lambda>"==li.qual)&&FP gT f.body ct x.2.1) false
theorem Hb:((sF.zip PT).all fun p=>Sx p.1 p.2)=true:=by kernel_rfl
theorem BQ:sF.length=PT.length:=by kernel_rfl
section
set_option backward.match.sparseCases false
abbrev Gv:=Nat->Option Obj
noncomputable def oI(g:Gv)(a:Nat):Option (Value×List Value):=match g a with
 |some ⟨c,_,.seq vs _,_⟩=>some (c,vs.toList)
 |_=>none
noncomputable def zB{α β:Type}(p:α->β->Bool):List α->List β->Bool
 |[],m=>m.isEmpty
 |a::l,m=>match m with|[]=>false|b::m=>p a b&&zB p l m
theorem GI{α β:Type}{p:α->β->Bool}{R:α->β->Prop}(k:∀a b,p a b=true->R a b):∀(l:List α) (m:List β),zB p l m=true->Z R l m
 |[],m,h=>List.isEmpty_iff.mp h
 |a::l,[],h=>nf h
 |a::l,b::m,h=>⟨b,m,rfl,k a b (a2 h).1,GI k l m (a2 h).2⟩
noncomputable def P8(g:Gv)(p:D->Value->Bool)(d:D)(u:Value):Bool:=match d with
 |.none=>match u with|.none=>true|_=>false
 |.bool b=>match u with|.bool a=>a==b|_=>false
 |.int b=>match u with|.int a _=>a==b|_=>false
 |.str b=>match u with|.str a _=>a.cps.toList==b|_=>false
 |.bytes b=>match u with|.bytes a _=>a.toList==b|_=>false
 |.tuple l=>match u with|.ref a=>oS (oI g a) fun x=>x.1==.type "tuple"&&zB p l x.2|_=>false
 |_=>false
noncomputable def RN(g:Gv):D->Value->Bool:=P8 g (P8 g (P8 g fun _ _=>false))
noncomputable def R0(g:Gv)(v:V)(u:Value):Bool:=match v with
 |.d x=>RN g x u
 |.fn i=>oS sF[i]? fun f=>u==.ref f.a
 |_=>false
noncomputable def Ay(g:Gv)(d:Nat):List Value:=cond (d==0) [] ((oI g d).elim [] (·.2))
abbrev FV:=Arguments×FuncBody×Scope×Addr×List (Str×Addr)×Value×Value×Addr×Str
noncomputable def eD(g:Gv)(a:Nat):Option FV:=match g a with
 |some ⟨_,_,.func fd,_⟩=>some (fd.params,fd.body,fd.scope,fd.globals,fd.closure,fd.defaults,fd.code,fd.builtins,fd.qualname)
 |_=>none
noncomputable def dX(i:FI)(q:Str):Option FV:=(defAt i).map fun x=>(x.1,.stmts x.2.1,x.2.2,mainGlobals,[],cond (i.d==0) .none (.ref i.d),.ref i.c,builtinsNs,q)
noncomputable def LW(o:Option Value)(q:Str):Bool:=match o with
 |some (.str x _)=>x==q
 |_=>false
noncomputable def Dc(g:Gv)(a:Nat):Option (Value×Array Value):=match g a with
 |some ⟨c,_,.fields vs,_⟩=>some (c,vs)
 |_=>none
noncomputable def Fc(g:Gv)(c:Nat)(q:Str):Bool:=oS (Dc g c) fun x=>LW x.2[1]? q
noncomputable def hd2(a b d e:Value):Bool:=match a with
 |.str .. =>match b with
  |.int .. =>match d with
   |.bool _=>match e with
    |.int .. =>true
    |_=>false
   |_=>false
  |_=>false
 |_=>false
noncomputable def PZ(c P:Nat)(t:Value)(vs:Array Value):Bool:=t==.type "code"&&(vs[11]? :Option Value)==some (.ref P)&&vs.getD 11 .none==.ref P&&c != P&&hd2 (vs.getD 18 .none) (vs.getD 7 .none) (vs.getD 9 .none) (vs.getD 10 .none)
noncomputable def Sn(g:Gv)(c P:Nat):Bool:=oS (Dc g c) fun x=>PZ c P x.1 x.2
noncomputable def fB(g:Gv)(i:FI)(f:Fn):Bool:=Fc g i.c i.q&&zB (R0 g) f.defs (Ay g i.d)&&(i.d==0||(oI g i.d).isSome)
noncomputable def sE(g:Gv):Frag:=([3,Iz,Lg,296,548,287,379]++(sF.filter fun i=>i.m != 0).map (·.a)).filterMap fun a=>(g a).map fun o=>(a,o)
noncomputable def gB(K:Frag)(x:Str)(v:Option Value):Bool:=nsIn K mainGlobals x==some v
noncomputable def NM(K:Frag)(i:FI):Bool:=cond (i.m==0) (gB K (sS i.n) (some (.ref i.a))) (findIn K (.ref Lg) (sS i.n)==some (some (.ref i.a))&&typeIn K (.ref i.a)==some (.type "function")&&sS i.n != sS "data"&&sS i.n != sS "at")
noncomputable def Ry(g:Gv)(e:String×D):Bool:=oS (nsIn (sE g) mainGlobals (sS e.1)) fun u=>oS u fun u=>RN g e.2 u
noncomputable def Lw:List B:=[.len,.ord,.chr,.abs,.min,.all,.isinstance,.cV,.dg,.mS,.u9,.bF,.jV]
noncomputable def bB(K:Frag)(b:B):Bool:=gB K (PU (ER b)) none&&bootBuiltins (PU (ER b))==some (ER b)&&PU (ER b) != "__name__"
noncomputable def L_(K:Frag)(C:Addr):Bool:=findIn K (.ref C) "__getattribute__"==some (some (.builtin "object.__getattribute__"))&&findIn K (.ref C) "__setattr__"==some (some (.builtin "object.__setattr__"))&&plainOver K C&&hasDictIn K C&&keepIn K (.ref C)&&makesIn K C
noncomputable def Jf(K:Frag)(C:Addr)(x:Str):Bool:=findIn K (.ref C) x==some none&&takerIn K C x==some none&& !(x==Str.ofString "__debug__")
noncomputable def Sr:List D:=[.none,.bool true,.int 0,.str [],.bytes [],.tuple [],.list [],.atom []]
noncomputable def zL(w:World)(K:Frag)(hB:Heap):Cx:=⟨pw,w,K,hB,sF.map (·.a),Iz,Lg,fF,gT⟩
noncomputable def Rc(c:Cx)(x:D):Bool:=kitOne c.K (JH c x) (.type "int")==some (x.isA .int)&&kitOne c.K (JH c x) (.type "bytes")==some (x.isA .bytes)&&kitOne c.K (JH c x) (.ref Iz)==some (x.isA .atom)&&kitAny c.K (JH c x) [.type "list",.type "tuple"]==some (x.isA .cR)
noncomputable def Pn(K:Frag):Bool:=plainGet K Iz "__class__"&&findIn K (.ref Iz) "__class__"==some (some (.builtin "object.__class__"))&&specialIn K (.builtin "object.__class__") "__get__"==some (some (.builtin "getset_descriptor.__get__"))&&
 takesIn K (.builtin "object.__class__")==some true&&mroIn K Iz (.type "object")==some true&&findIn K (.ref Lg) "__getattr__"==some none
noncomputable def EV:FI:=⟨50,1,287,0,""⟩
noncomputable def EP:FI:=⟨60,1,379,372,""⟩
noncomputable def Fy(K:Frag)(C f:Addr):Bool:=findIn K (.ref C) "__init__"==some (some (.ref f))&&typeIn K (.ref f)==some (.type "function")
noncomputable def RQ(l:List Value):Bool:=match l with|[.int a _]=>a==0|_=>false
noncomputable def Te(g:Gv)(K:Frag):Bool:=(sF.all (NM K))&&(Lx.all (Ry g))&&(Lw.all (bB K))&&((sF.zip PT).all fun p=>fB g p.1 p.2)
noncomputable def S9(K:Frag):Bool:=L_ K Lg&&L_ K Iz&&Jf K Lg (sS "data")&&Jf K Lg (sS "at")
noncomputable def Tv(K:Frag):Bool:=gB K (sS "Atom") (some (.ref Iz))&&gB K (sS "Wire") (some (.ref Lg))&&gB K (sS "range") none&&gB K (sS "enumerate") none
noncomputable def TA(g:Gv)(K:Frag):Bool:=Fy K Iz 287&&Fy K Lg 379&&Fc g 286 (sS "Atom.__init__")&&Fc g 378 (sS "Wire.__init__")
noncomputable def TC(g:Gv)(c:Cx):Bool:=Sr.all (Rc c)&&(fF.all fun li=>Sn g li.c li.P)&&RQ (Ay g 372)&&(372==0||(oI g 372).isSome)
noncomputable def MF(g:Gv)(c:Cx):Bool:=Te g c.K&&S9 c.K&&Tv c.K&&TA g c.K&&(TC g c&&Pn c.K&&Jf c.K Iz (sS "text"))
end
section
set_option backward.match.sparseCases false
theorem hide{G:Prop}(h:∀P:Prop,(G->P)->P):G:=h G id
theorem lS{α:Type}{k:α->Bool}{l:Option α}(h:oS l k=true):∃a,l=some a/\k a=true:=by
 cases l with
 |some a=>exact⟨a,rfl,h⟩
 |none=>exact nf h
section
variable{g:Gv}{w:World}{hB:Heap}(hG:∀a o,g a=some o->hB.get? a=some o)
theorem Gl{a:Nat}{x:Value×List Value}(h:oI g a=some x):∃o n,g a=some o/\o.cls=x.1/\o.data=.seq x.2.toArray n:=by
 unfold oI at h
 cases e:g a with
 |none=>rw[e] at h;cases h
 |some o=>
  rw[e] at h
  obtain⟨oc,od,dt,sl⟩:=o
  cases dt with
  |seq vs n=>cases h;exact⟨_,n,rfl,rfl,rfl⟩
  |_=>cases h
theorem yw{a:Nat}{r:FV}(h:eD g a=some r):∃o fd,g a=some o/\o.data=.func fd/\r=(fd.params,fd.body,fd.scope,fd.globals,fd.closure,fd.defaults,fd.code,fd.builtins,fd.qualname):=by
 unfold eD at h
 cases e:g a with
 |none=>rw[e] at h;cases h
 |some o=>
  rw[e] at h
  obtain⟨oc,od,dt,sl⟩:=o
  cases dt with
  |func fd=>cases h;exact⟨_,fd,rfl,rfl,rfl⟩
  |_=>cases h
theorem Hs{a:Nat}{x:Value×Array Value}(h:Dc g a=some x):∃o,g a=some o/\o.cls=x.1/\o.data=.fields x.2:=by
 unfold Dc at h
 cases e:g a with
 |none=>rw[e] at h;cases h
 |some o=>
  rw[e] at h
  obtain⟨oc,od,dt,sl⟩:=o
  cases dt with
  |fields vs=>cases h;exact⟨_,rfl,rfl,rfl⟩
  |_=>cases h
include hG
theorem Gh{c:Cx}{p:D->Value->Bool}(k:∀d u,p d u=true->CD c hB d u)(d:D)(u:Value)(h:P8 g p d u=true):CD c hB d u:=by
 cases d with
 |none=>cases u with
  |none=>rfl
  |_=>exact nf h
 |bool b=>cases u with
  |bool a=>exact congrArg _ (eq_of_beq h)
  |_=>exact nf h
 |int b=>cases u with
  |int a t=>exact⟨t,congrArg (Value.int · t) (eq_of_beq h)⟩
  |_=>exact nf h
 |str b=>cases u with
  |str a t=>exact⟨t,(eq_of_beq h)▸rfl⟩
  |_=>exact nf h
 |bytes b=>cases u with
  |bytes a t=>exact⟨t,(eq_of_beq h)▸rfl⟩
  |_=>exact nf h
 |tuple l=>cases u with
  |ref a=>
   obtain⟨x,e,h⟩:=lS h
   obtain⟨o,n,e1,e2,e3⟩:=Gl e
   exact cp.mpr ⟨a,x.2,rfl,⟨o,hG _ _ e1,e2.trans (eq_of_beq (a2 h).1),n,e3⟩,GI k _ _ (a2 h).2⟩
  |_=>exact nf h
 |_=>exact nf h
theorem FJ{c:Cx}(d:D)(u:Value)(h:RN g d u=true):CD c hB d u:=Gh hG (Gh hG (Gh hG fun d u=>nf)) d u h
theorem Mg(v:V)(u:Value)(h:R0 g v u=true):CV (zL w (sE g) hB) hB [] v u:=by
 cases v with
 |d x=>exact FJ hG x u h
 |fn i=>
  obtain⟨f,e,h⟩:=lS h
  exact⟨f.a,eq_of_beq h,(List.getElem?_map ..).trans (congrArg (Option.map (·.a)) e)⟩
 |_=>exact nf h
theorem rec_of{c:Nat}{q:Str}(h:Fc g c q=true):hB.CodeRec (.ref c) q:=by
 obtain⟨⟨oc,vs⟩,e,h⟩:=lS h
 obtain⟨o,e1,e0,e2⟩:=Hs e
 clear e
 have h:LW vs[1]? q=true:=h
 cases e:(vs[1]? :Option Value)with
 |none=>rw[e] at h;exact nf h
 |some v=>
  rw[e] at h
  cases v with
  |str x t=>exact⟨c,o,vs,t,rfl,hG _ _ e1,e2,e.trans (congrArg (fun x=>some (Value.str x t)) (eq_of_beq h))⟩
  |_=>exact nf h
theorem Nm{c P:Nat}(h:Sn g c P=true):CodeHd hB c P:=by
 obtain⟨⟨oc,vs⟩,e,h⟩:=lS h
 obtain⟨o,e1,h1,e2⟩:=Hs e
 obtain⟨h,h5⟩:=a2 h
 obtain⟨h0,h2,h3,h4⟩:=a4 h
 have h1:=h1.trans (eq_of_beq h0)
 clear e h h0
 have h5:hd2 (vs.getD 18 .none) (vs.getD 7 .none) (vs.getD 9 .none) (vs.getD 10 .none)=true:=h5
 refine hide fun R kR=>?_
 cases e18:vs.getD 18 .none with
 |str f tf=>
  cases e7:vs.getD 7 .none with
  |int fl tg=>
   cases e9:vs.getD 9 .none with
   |bool i=>
    cases e10:vs.getD 10 .none with
    |int x tt=>exact kR ⟨o,vs,f,tf,fl,tg,i,x,tt,hG _ _ e1,h1,e2,eq_of_beq h2,eq_of_beq h3,e18,e7,e9,e10,bne_iff_ne.mp h4⟩
    |_=>rw[e18,e7,e9,e10] at h5;exact nf h5
   |_=>rw[e18,e7,e9] at h5;exact nf h5
  |_=>rw[e18,e7] at h5;exact nf h5
 |_=>rw[e18] at h5;exact nf h5
end
end
section
theorem uu{a:Arguments}(h:vt a=true):a=⟨[],a.args,none,[],[],none,a.defaults⟩:=by
 obtain⟨h,h5⟩:=a2 h
 obtain⟨h1,h2,h3,h4⟩:=a4 h
 obtain⟨x1,x2,x3,x4,x5,x6,x7⟩:=a
 cases List.isEmpty_iff.mp h1
 cases Option.isNone_iff_eq_none.mp h2
 cases List.isEmpty_iff.mp h3
 cases List.isEmpty_iff.mp h4
 cases Option.isNone_iff_eq_none.mp h5
 rfl
section
variable{g:Gv}{w:World}{hB:Heap}(hG:∀a o,g a=some o->hB.get? a=some o)
theorem uP{α β:Type}{l:List α}{m:List β}{p:α×β->Bool}{i:Nat}{a:α}{b:β}(h:(l.zip m).all p=true)(h1:l[i]? =some a)(h2:m[i]? =some b):p (a,b)=true:=
 List.all_eq_true.mp h _ (List.mem_of_getElem? (List.getElem?_zip_eq_some.mpr ⟨h1,h2⟩))
theorem vb{i:FI}{q:Str}(v:eD g i.a=dX i q){x:Arguments×List Stmt×Scope}(e:defAt i=some x):∃o fd,g i.a=some o/\o.data=.func fd/\fd.params=x.1/\fd.body=.stmts x.2.1/\fd.scope=x.2.2/\fd.globals=mainGlobals/\fd.closure=[]/\fd.defaults=cond (i.d==0) .none (.ref i.d)/\fd.code=.ref i.c/\fd.builtins=builtinsNs/\fd.qualname=q:=by
 obtain⟨o,fd,h1,h2,h3⟩:=yw (v.trans (congrArg _ e))
 obtain⟨e1,h3⟩:=Prod.mk.inj h3
 obtain⟨e2,h3⟩:=Prod.mk.inj h3
 obtain⟨e3,h3⟩:=Prod.mk.inj h3
 obtain⟨e4,h3⟩:=Prod.mk.inj h3
 obtain⟨e5,h3⟩:=Prod.mk.inj h3
 obtain⟨e6,h3⟩:=Prod.mk.inj h3
 obtain⟨e7,h3⟩:=Prod.mk.inj h3
 obtain⟨e8,e9⟩:=Prod.mk.inj h3
 exact⟨o,fd,h1,h2,e1.symm,e2.symm,e3.symm,e4.symm,e5.symm,e6.symm,e7.symm,e8.symm,e9.symm⟩
include hG
theorem Fi{fd:FuncData}{d:Nat}(e:fd.defaults=cond (d==0) .none (.ref d))(h:(d==0||(oI g d).isSome)=true):Qa (zL w (sE g) hB) fd (Ay g d):=by
 unfold Ay
 cases hd:d==0 with
 |true=>rw[hd] at e;exact .inl ⟨rfl,e⟩
 |false=>
  rw[hd] at e h
  obtain⟨x,hx⟩:=Option.isSome_iff_exists.mp h
  obtain⟨o,n,e1,e2,e3⟩:=Gl hx
  rw[hx]
  exact .inr ⟨d,o,n,e,hG _ _ e1,e3⟩
theorem N8(v1:sF.map (fun i=>eD g i.a)=sF.map fun i=>dX i i.q)(k:((sF.zip PT).all fun p=>fB g p.1 p.2)=true){j:Nat}{i:FI}{f:Fn}(hi:sF[j]? =some i)(hf:PT[j]? =some f):∃x,KZ (zL w (sE g) hB) i.a f x:=by
 obtain⟨k1,k2,k3⟩:=a3 (uP k hi hf)
 obtain⟨x,hx,B⟩:=lS (uP Hb hi hf)
 obtain⟨o,fd,ho,hd,e1,e2,e3,e4,e5,e6,e7,e8,e9⟩:=vb (List.map_inj_left.mp v1 i (List.mem_of_getElem? hi)) hx
 cases hp:vt x.1 with
 |false=>rw[hp] at B;exact nf B
 |true=>
  rw[hp] at B
  obtain⟨B,c11⟩:=a2 B
  obtain⟨B,c10⟩:=a2 B
  obtain⟨B,c9⟩:=a2 B
  obtain⟨B,c8⟩:=a2 B
  obtain⟨B,c7⟩:=a2 B
  obtain⟨B,c6⟩:=a2 B
  obtain⟨B,c5⟩:=a2 B
  obtain⟨c2,c3,c4⟩:=a3 B
  have c6:=List.isEmpty_iff.mp c6
  refine⟨⟨fd,x.1.args.map (·.arg),x.1.args,x.1.defaults,x.2.1,Ay g i.d⟩,⟨o,hG _ _ ho,hd⟩,e1.trans (uu hp),rfl,of_decide_eq_true c2,eq_of_beq c3,⟨GI (Mg hG) _ _ k2,Fi hG e6 k3⟩,TF c4,e3▸c5,e2,?_,e5,e4,e8,?_,e3▸c6,?_,?_,fun li hl hc=>?_,fun y hy=>?_⟩
  ·show FP gT f.body (ji fd.scope fd.code) x.2.1=true
   rw[e3,e7];exact c11
  ·show hB.CodeRec fd.code fd.qualname
   rw[e7,e9];exact rec_of hG k1
  ·show f.DK=srcOf _ (pick .local fd.scope)
   rw[e3];exact eq_of_beq c7
  ·show f.m_=srcOf _ (pick .cell fd.scope)
   rw[e3];exact eq_of_beq c8
  ·have hc:i.c=li.c:=Value.ref.inj (e7.symm.trans hc)
   have h:=List.all_eq_true.mp c10 li hl
   rw[hc,beq_self_eq_true] at h
   exact(congrArg (fun q=>(q++Str.ofString ".<locals>.")++Str.ofString "<lambda>") e9).trans (eq_of_beq h)
  ·show y∈pick .local fd.scope\/y∈pick .cell fd.scope
   rw[e3]
   refine(Bool.or_eq_true_iff.mp (List.all_eq_true.mp c9 y hy)).imp List.contains_iff_mem.mp fun q=>?_
   have q:y∈pick .cell x.2.2++pick .free x.2.2:=List.contains_iff_mem.mp q
   rw[c6,List.append_nil] at q
   exact q
end
end
section
set_option backward.match.sparseCases false
theorem E3{K:Frag}{C:Addr}(h:L_ K C=true):qz K C/\keepIn K (.ref C)=true/\makesIn K C=true:=by
 obtain⟨h,h6⟩:=a2 h
 obtain⟨h,h5⟩:=a2 h
 obtain⟨h1,h2,h3,h4⟩:=a4 h
 exact⟨⟨eq_of_beq h1,eq_of_beq h2,h3,h4⟩,h5,h6⟩
theorem nI{K:Frag}{C:Addr}{x:Str}(h:Jf K C x=true):jA K C x/\(x==Str.ofString "__debug__")=false:=by
 obtain⟨h1,h2,h3⟩:=a3 h
 exact⟨⟨eq_of_beq h1,eq_of_beq h2⟩,(Bool.not_eq_true' _).mp h3⟩
theorem H8{c:Cx}(x:D):∃s∈Sr,JH c x=JH c s/\∀k,x.isA k=s.isA k:=by
 cases x with
 |none=>exact⟨_,List.mem_of_getElem? (i:=0) rfl,rfl,fun k=>by cases k<;>rfl⟩
 |bool b=>exact⟨_,List.mem_of_getElem? (i:=1) rfl,rfl,fun k=>by cases k<;>rfl⟩
 |int b=>exact⟨_,List.mem_of_getElem? (i:=2) rfl,rfl,fun k=>by cases k<;>rfl⟩
 |str b=>exact⟨_,List.mem_of_getElem? (i:=3) rfl,rfl,fun k=>by cases k<;>rfl⟩
 |bytes b=>exact⟨_,List.mem_of_getElem? (i:=4) rfl,rfl,fun k=>by cases k<;>rfl⟩
 |tuple b=>exact⟨_,List.mem_of_getElem? (i:=5) rfl,rfl,fun k=>by cases k<;>rfl⟩
 |list b=>exact⟨_,List.mem_of_getElem? (i:=6) rfl,rfl,fun k=>by cases k<;>rfl⟩
 |atom b=>exact⟨_,List.mem_of_getElem? (i:=7) rfl,rfl,fun k=>by cases k<;>rfl⟩
theorem Dw(b:B):b∈Lw:=List.mem_of_getElem? (i:=b.ctorIdx) (by cases b<;>rfl)
noncomputable def Ng(ps:List (Str×Pos×Pos×Pos×Pos)):List Stmt:=ps.map fun p=>.Assign [.Attribute (.Name jK p.2.1) p.1 p.2.2.1] (.Name p.1 p.2.2.2.1) p.2.2.2.2
noncomputable def K4(b:List Stmt):List (Str×Pos×Pos×Pos×Pos):=b.filterMap fun
 |.Assign [.Attribute (.Name _ p1) x p2] (.Name _ p3) p4=>some (x,p1,p2,p3,p4)
 |_=>none
noncomputable def q8(xs:List Str)(x:Arguments×List Stmt×Scope):Bool:=vt x.1&&x.1.args.map (·.arg)==jK::xs&&((jK::xs).all fun y=>x.2.2.names.lookup y==some .local)&&(x.2.2.names.all fun y=>y.2 != .cell)&&x.2.2.kind==.function&& !x.2.2.isCoroutine&& !x.2.2.isGenerator&&(K4 x.2.1).map (·.1)==xs
noncomputable def S_:List Str:=[Str.ofString "text"]
noncomputable def RZ:List Str:=[Str.ofString "data",Str.ofString "at"]
theorem Ce:((defAt EV).map fun x=>(q8 S_ x,x.2.1),(defAt EP).map fun x=>(q8 RZ x,x.2.1))=((defAt EV).map fun x=>(true,Ng (K4 x.2.1)),(defAt EP).map fun x=>(true,Ng (K4 x.2.1))):=by kernel_rfl
theorem xZ:((defAt EV).isSome&&(defAt EP).isSome)=true:=by kernel_rfl
theorem Oe{l:List Value}(h:RQ l=true):∃t,l=[.int 0 t]:=by
 cases l with
 |nil=>exact nf h
 |cons u l=>cases l with
  |nil=>cases u with
   |int a t=>exact⟨t,congrArg (fun a=>[Value.int a t]) (eq_of_beq h)⟩
   |_=>exact nf h
  |cons v l=>cases u<;>exact nf h
section
variable{g:Gv}{w:World}{hB:Heap}(hG:∀a o,g a=some o->hB.get? a=some o)
include hG
theorem CT{i:FI}{q:Str}{xs:List Str}{C:Addr}(v:eD g i.a=dX i q)(h1:Fy (sE g) C i.a=true)(hm:makesIn (sE g) C=true)(hr:Fc g i.c q=true)(hi:(defAt i).isSome=true)(hw:(defAt i).map (fun x=>(q8 xs x,x.2.1))=(defAt i).map fun x=>(true,Ng (K4 x.2.1)))
  (hd:(i.d==0||(oI g i.d).isSome)=true) (ha:∀x∈xs,jA (sE g) C x/\(x==Str.ofString "__debug__")=false):∃f fd,wc (zL w (sE g) hB) C xs (Ay g i.d) f fd:=by
 obtain⟨x,hx⟩:=Option.isSome_iff_exists.mp hi
 rw[hx] at hw
 obtain⟨B,hb⟩:=Prod.mk.inj (Option.some.inj hw)
 obtain⟨o,fd,ho,hd',e1,e2,e3,e4,e5,e6,e7,e8,e9⟩:=vb v hx
 obtain⟨B,b8⟩:=a2 B
 obtain⟨B,b7⟩:=a2 B
 obtain⟨B,b6⟩:=a2 B
 obtain⟨B,b5⟩:=a2 B
 obtain⟨b1,b2,b3,b4⟩:=a4 B
 refine⟨i.a,fd,hm,eq_of_beq (a2 h1).1,eq_of_beq (a2 h1).2,⟨o,hG _ _ ho,hd'⟩,⟨_,_,e1.trans (uu b1),eq_of_beq b2⟩,Fi hG e6 hd,⟨_,eq_of_beq b8,e2.trans (congrArg _ hb)⟩,?_,?_,?_,?_,?_,?_,ha⟩
 ·exact fun y hy=>e3▸eq_of_beq (List.all_eq_true.mp b3 y hy)
 ·exact fun y hy=>bne_iff_ne.mp (List.all_eq_true.mp b4 y (e3▸hy))
 ·exact e3▸eq_of_beq b5
 ·exact e3▸(Bool.not_eq_true' _).mp b6
 ·exact e3▸(Bool.not_eq_true' _).mp b7
 ·rw[e7,e9];exact rec_of hG hr
theorem IQ(T:∃p loose mean mg mb,Top p loose mean mg mb hB)(v1:sF.map (fun i=>eD g i.a)=sF.map fun i=>dX i i.q)(v2:eD g EV.a=dX EV (sS "Atom.__init__"))(v3:eD g EP.a=dX EP (sS "Wire.__init__")){h0:Heap}{w0:World}(k:MF g (zL w0 (sE g) h0)=true):Good (zL w (sE g) hB):=by
 obtain⟨k,z⟩:=a2 k
 obtain⟨kE,k13,k11⟩:=a3 z
 obtain⟨kA,kB,kC,kD⟩:=a4 k
 obtain⟨k1,k2,k3,k6⟩:=a4 kA
 obtain⟨k7,k8,k9,k10⟩:=a4 kB
 obtain⟨k4,k5,k14,k15⟩:=a4 kC
 obtain⟨k16,k17,k18,k19⟩:=a4 kD
 obtain⟨k12,k20,k21,k22⟩:=a4 kE
 obtain⟨k13,m6⟩:=a2 k13
 obtain⟨k13,m5⟩:=a2 k13
 obtain⟨m1,m2,m3,m4⟩:=a4 k13
 obtain⟨w1,w2,w3⟩:=E3 k7
 obtain⟨t1,t2,t3⟩:=E3 k8
 have sm:∀x,_:=fun x h=>a4 (List.all_eq_true.mp k12 x h)
 have own:∀f∈sF,_:=List.all_eq_true.mp k1
 refine{
  name:=fun x v h=>?_
  KX:=fun a o e=>hG a o ?_
  top:=T
  wire:=w1
  atom:=t1
  wd:=(nI k9).1
  wa:=(nI k10).1
  at_:=(nI k11).1
  bm:=fun x m y h e=>?_
  ga:=eq_of_beq m6
  own:=fun x i h=>?_
  fn:=fun i a h=>?_
  kA:=t2
  kW:=w2
  lam:=fun code pos h=>?_
  Pm:=fun j ct e h=>Kb h
  hd:=fun li hl=>Nm hG (List.all_eq_true.mp k20 li hl)
  nd:=(show(fF.map (·.P)).Nodup by decide+kernel)
  one:=fun x k hk=>?_
  two:=fun x=>?_
  hg:=m1
  ha:=eq_of_beq m2
  hn:=eq_of_beq m3
  ht:=eq_of_beq m4
  hm:=eq_of_beq m5
  rg:=eq_of_beq k14
  rb:=rfl
  eg:=eq_of_beq k15
  eb:=rfl
  fns:=fun i f hf=>?_
  iA:=CT hG (i:=EV) v2 k16 t3 k18 (a2 xZ).1 (Prod.mk.inj Ce).1 rfl fun x hx=>List.mem_singleton.mp hx▸nI k11
  iW:=?_}
 ·cases v with
  |fn i=>
   obtain⟨f,e,h⟩:=lS h
   obtain⟨h1,h2⟩:=a2 h
   have q:=own f (List.mem_of_getElem? e)
   unfold NM at q
   rw[h1,eq_of_beq h2] at q
   exact .inl ⟨_,eq_of_beq q,f.a,rfl,(List.getElem?_map ..).trans (congrArg (Option.map (·.a)) e)⟩
  |d d=>
   obtain⟨e,he,h⟩:=List.any_eq_true.mp h
   obtain⟨h1,h2⟩:=a2 h
   obtain⟨u,e1,q⟩:=lS (List.all_eq_true.mp k2 e he)
   obtain⟨u,rfl,q⟩:=lS q
   exact .inl ⟨u,eq_of_beq h1▸e1,Ni _ _ h2▸FJ hG _ _ q⟩
  |bi b=>
   obtain⟨h1,h2,h3⟩:=a3 (List.all_eq_true.mp k3 b (Dw b))
   have e:PU (ER b)=x:=eq_of_beq h
   exact .inr ⟨b,e▸eq_of_beq h1,e▸eq_of_beq h2,rfl,e▸bne_iff_ne.mp h3⟩
  |lU=>exact .inl ⟨_,eq_of_beq h▸eq_of_beq k4,rfl⟩
  |tS=>exact .inl ⟨_,eq_of_beq h▸eq_of_beq k5,rfl⟩
  |_=>exact nf h
 ·have m:(a,o)∈sE g:=by
   obtain⟨l1,l2,q,r⟩:=List.lookup_eq_some_iff.mp e
   have q:sE g=l1++(a,o)::l2:=q
   rw[q]
   exact List.mem_append_right _ (.head _)
  obtain⟨b,r,hb⟩:=List.mem_filterMap.mp m
  obtain⟨o',ho,e⟩:=Option.map_eq_some_iff.mp hb
  cases e
  exact ho
 ·cases m with
  |own i=>cases e
  |_=>exact Option.some.inj ((eq_of_beq h).symm.trans e)
 ·obtain⟨f,e,h⟩:=lS h
  obtain⟨h1,h2⟩:=a2 h
  have q:=own f (List.mem_of_getElem? e)
  unfold NM at q
  rw[(Bool.not_eq_true' _).mp h1,eq_of_beq h2] at q
  obtain⟨q1,q2,q3,q4⟩:=a4 q
  exact⟨f.a,(List.getElem?_map ..).trans (congrArg (Option.map (·.a)) e),eq_of_beq q1,eq_of_beq q2,bne_iff_ne.mp q3,bne_iff_ne.mp q4⟩
 ·obtain⟨f,e,rfl⟩:=Option.map_eq_some_iff.mp ((List.getElem?_map ..).symm.trans h)
  have hl:=(List.getElem?_eq_some_iff.mp e).1
  obtain⟨x,hx,r⟩:=lS (uP Hb e (List.getElem?_eq_getElem (BQ▸hl)))
  obtain⟨o,fd,ho,hd,r⟩:=vb (List.map_inj_left.mp v1 f (List.mem_of_getElem? e)) hx
  exact⟨o,fd,hG _ _ ho,hd⟩
 ·obtain⟨li,hli,e⟩:=List.any_eq_true.mp h
  obtain⟨e1,e2,e3⟩:=a3 e
  exact⟨li,hli,eq_of_beq e1,eq_of_beq e2,eq_of_beq e3⟩
 ·obtain⟨s,hs,e1,e2⟩:=H8 (c:=zL w (sE g) hB) x
  obtain⟨s1,s2,s3,s4⟩:=sm s hs
  rw[e1,e2]
  cases k with
  |int=>exact eq_of_beq s1
  |bytes=>exact eq_of_beq s2
  |atom=>exact eq_of_beq s3
  |cR=>exact absurd rfl hk
 ·obtain⟨s,hs,e1,e2⟩:=H8 (c:=zL w (sE g) hB) x
  rw[e1,e2]
  exact eq_of_beq (sm s hs).2.2.2
 ·have hl:i<sF.length:=BQ▸(List.getElem?_eq_some_iff.mp hf).1
  have hi:=List.getElem?_eq_getElem hl
  obtain⟨x,J⟩:=N8 (w:=w) hG v1 k6 hi hf
  exact⟨_,x,(List.getElem?_map ..).trans (congrArg (Option.map (·.a)) hi),J⟩
 ·have I:=CT (w:=w) hG (i:=EP) v3 k17 w3 k19 (a2 xZ).2 (Prod.mk.inj Ce).2 k22 (xs:=RZ) fun x hx=>(List.mem_cons.mp hx).elim (fun e=>e▸nI k9) fun hx=>List.mem_singleton.mp hx▸nI k10
  obtain⟨f,fd,I⟩:=I
  have e:∃t,Ay g EP.d=[.int 0 t]:=Oe k21
  obtain⟨t,e⟩:=e
  exact⟨f,fd,t,e▸I⟩
end
end
noncomputable def q0:Program:=view pw [pw.main.body.length-1]
noncomputable def rp:List Str:=pw.boundNames.filter fun n=> !(n==Str.ofString "law")
noncomputable def IA:List Addr:=fF.map (·.P)
noncomputable def yJ(S:SharedT):Gv:=fun a=>match Nat.blt a S.n&& !(IA.contains a)with
 |true=>(S.tree.get a).bind alive
 |false=>none
noncomputable abbrev QR:Shared->Bool:=fun _=>true
noncomputable def OP(w:World)(S:SharedT):=((staticsOk (importedModules pw.main.body) (boot_heap w.params) S.abs.heap&&namesBound pw S.abs.heap&&gensDone S.abs&&laidKept (boot_heap w.params) S.abs.heap),openSeen q0 rp (importedModules pw.main.body) QR true S.abs)
noncomputable def Lz(w:World)(S:SharedT):=(sF.map (fun i=>eD (yJ S) i.a),eD (yJ S) EV.a,eD (yJ S) EP.a,MF (yJ S) (zL w (sE (yJ S)) (boot_heap w.params)),fF.map (fun li=>S.tree.get li.P),fF.all fun li=>Nat.blt li.P S.n)
theorem G0:∀(w:World) (os:OsState),(k_ (Ie pw w) RK 6000 (Sg w os) (topStub pw)).map (fun S=>(OP w S,Lz w S))=
  some ((true,openGood q0 rp),(sF.map fun i=>dX i i.q),dX EV (sS "Atom.__init__"),dX EP (sS "Wire.__init__"),true,fF.map (fun _=>some (tabObj #[])),true):=by
 intro w os
 kernel_rfl
theorem Au:N6 ⟨.builtin "claim.caller" {},none,none,[],none⟩:=⟨by rfl,fun x hx=>by cases hx⟩
theorem xy{prog:Program}{w:World}{t:Sem Fin}{s:Shared}{R:Result->Shared->Prop}(hreg:s.asleep)
  (h:wA (model prog w) callerA t (fun fin s'=>∃f,fin=.done f/\(R (.ok f) s'/\leftWithCleanup s'.gens=false)) s):
  ∃n r s' s'',runN (denote table) prog w n s ⟨t,.builtin "claim.caller" {},default,[]⟩=.halted (outcomeOf r) s'/\
   schedN (denote table) prog w n (.single s ⟨t,.builtin "claim.caller" {},default,[]⟩)=.halted (outcomeOf r) s'/\s'.forget=s''.forget/\R r s'':=by
 have h0:=h ⟨.builtin "claim.caller" {},none,none,[],none⟩ default caller_in Au
 have h1:=Sem.wp_mono (model prog w) ⟨.builtin "claim.caller" {},none,none,[],none⟩ t
  (post':=Sem.finPost (model prog w) ⟨.builtin "claim.caller" {},none,none,[],none⟩ fun r s'=>R r s'/\leftWithCleanup s'.gens=false) (exc':=fun e _ s'=>R (.error e) s'/\leftWithCleanup s'.gens=false)
  (fun fin p s' ⟨f,e,hf⟩=>by subst e;exact hf) (fun _ _ _ x=>x.elim) default s h0
 obtain⟨n,r,s₁,s₂,hs,hn,hfo,hR⟩:=wp_halts_full (M:=model prog w) (R:=R) hreg h1
 exact⟨n,r,s₂,s₁,hn,hs,hfo,hR⟩
theorem As{r:OpenRow}{q:Program}{loose:List Str}{α:Type}{Yf:Shared->α}{Ya:World->α}{YP:World->Heap->Prop}{d:DefRec}{kwd:List (Str×Expr)}{N:Nat}
  (left:LeftO r.prog q loose (fun _=>true) Yf Ya N) (hY:∀w s,Yf s=Ya w->YP w s.heap) (hYk:∀w h h',YP w h->(∀b o,h.get? b=some o->h'.get? b=some o)->YP w h')
  (hdef:defOf q r.name=some (d,kwd)) (hp:r.prog.theDef r.name=some (d.params,d.body,d.scope)) (hk:kwWritten? d.params.kwonlyargs d.params.kw_defaults=some kwd) (hrec:r.records=[]) (hwr:r.writes=false) (hpin:r.pinned=true)
  (k1:r.wellSaid=true) (hch:chainsOk q=true) (ho:opensWell r.prog=true) (hfr:PySem.W.frees r.toRowW=true) (hwi:r.within=[]) (hb:r.prog.bare) (hw:r.toRowW.promised)
  (call:∀(w:World) (s₀ s₁:Shared) (mg mb:Str->Option Value),(∃l mean,Top q l mean mg mb s₁.heap)->YP w s₁.heap->∀a,mg r.name=some (.ref a)->s₁.gens=#[]->∀(args:List WData) (vs:List Value) (as:List Addr),r.toRowW.claim.pre args=true->ReadsAllW [] (classAt s₀.heap) s₁.heap vs args as->
   wA (model r.prog w) callerA (PySem.call (.ref a) vs) (fun v s'=>GoodWG r.toRowW.claim (classAt s₀.heap) (ExcName.means s₀.heap) args s₁ (.ok (.ret v)) s') s₁):r.Holds:=by
 obtain⟨hsame,hu,ha,hap,hm⟩:=frees_parts hfr
 have hi:=ident_freeW hu ha hap
 refine⟨k1,hw,⟨hb,ho,by show r.makers.map _=[];rw[hm];rfl⟩,hw.witness,fun w=>⟨(left.behind (XP:=fun _ _=>True) (fun _ _=>trivial) hch w).1,fun s' hs'=>?_⟩⟩
 refine hide fun P kP=>?_
 obtain⟨s₀,hf,hg0,s,hT,hz,hgs,hg,G,y⟩:=(left.behind (XP:=fun _ _=>True) (fun _ _=>trivial) hch w).2 s' hs'
 have hgens:s.gens=#[]:=Array.eq_empty_of_size_eq_zero (beq_iff_eq.mp hgs)
 refine kP ⟨s₀,hf,hg0,s,hT,?_,fun x hx=>?_,fun x hx=>?_,?_⟩
 ·rw[hpin]
  intro n hn
  have hn:n=r.name:=by simpa using hn
  subst hn
  exact pinned_of_view hg G hdef hp hk
 ·have hx:x∈r.records:=hx
  rw[hrec] at hx;cases hx
 ·have hx:x∈r.records:=hx
  rw[hrec] at hx;cases hx
 intro args hpre hlay ord hord
 refine hide fun P kP=>?_
 have hpre':=(pre_splitW hpre).1
 have G':Ground q loose r.records (fun _ _=>True) w s (s.heap.nsMap mainGlobals) (s.heap.nsMap builtinsNs) s.heap:=by rw[hrec];exact G
 obtain⟨⟨vs,s₁⟩,hlaid⟩:=Option.isSome_iff_exists.mp (layAllW_isSome (P:=w.params) (ord:=ord) G'.has args r.args s hpre')
 have keeps:=layAllW_keeps _ _ _ hlaid
 have hal:=layAllW_rest _ _ _ hlaid
 obtain⟨as,hrd,hin,hold⟩:=reads_layAllW hord _ _ _ hlaid hlay s₁.heap (fun _ _ e=>e)
 have L:Laid r.records w s s₁ args vs as:=⟨⟨ord,hord,hlaid⟩,hrd,hin,hold,keeps,hal.1.trans hgens,hal.2.2.1⟩
 have T₁:=G.T.keeps keeps
 obtain⟨a,o,pm,cd,doc,dV,kV,h1,h2,h3,h4,h5⟩:=G.fn hdef
 have hn:=defOf_name hdef
 have W:=call w s s₁ _ _ ⟨_,_,T₁⟩ (hYk _ _ _ (hY w s y) keeps) a h1 L.gens args vs as hpre (by rw[<-hrec];exact hrd)
 have W2:wA (model r.prog w) callerA (callStub r.name vs).cur (fun fin s'=>∃f,fin=.done f/\((r.toRowW.claim.Ends s args vs s₁ (.ok f) s'/\s'.os=s.os)/\leftWithCleanup s'.gens=false)) s₁:=by
  refine bw (wpAny_nsGet T₁.g ?_)
  rw[h1]
  refine aj (aG W fun v s' g=>aH ⟨_,rfl,?_⟩)
  have z:=g.laid (c:=r.toRowW.claim) hsame (by show r.within=[];exact hwi) hi L
  exact⟨⟨z.1,z.2.1⟩,leftWithCleanup_false_of_bare z.2.2⟩
 obtain⟨k,res,s2,s3,hrun,hsched,hfo,hcase,hos⟩:=xy (prog:=r.prog) (w:=w) (t:=(callStub r.name vs).cur) (s:=s₁) (R:=fun res s'=>r.toRowW.claim.Ends s args vs s₁ res s'/\s'.os=s.os) (Shared.asleep_of_life hal.2.2.2 hz) W2
 obtain⟨eh,_,_,eo,_⟩:=Shared.forget_eq hfo
 have hcase:=hcase.congr eh
 rw[<-eo] at hos
 have hlife:s2.heap.life=s.heap.life:=(runN_life _ _ _ hrun).trans hal.2.2.2
 refine kP ⟨vs,s₁,hlaid,k,_,s2,hsched,?_,(fun _ i x hx=>by rw[hgens] at hx;simp at hx),(fun hw'=>by rw[hwr] at hw';cases hw'),by rw[hlife],Shared.rest_eq hos⟩
 rcases hcase with⟨v,rfl,d1,d2,d3,d4,d5⟩|⟨e,ob,cls,rfl,d1,d2,d3,d4,d5⟩
 ·exact .inl ⟨v,rfl,d1,d2,d3,fun b o y _=>d4 b o y,d5⟩
 ·exact .inr ⟨e,ob,cls,rfl,d1,d2,d3,d4,fun b o y _=>d5 b o y⟩
def Lo(h:Heap):Prop:=∃(g:Gv) (w:World),(∀a o,g a=some o->h.get? a=some o/\a∉IA)/\sF.map (fun i=>eD g i.a)=sF.map (fun i=>dX i i.q)/\eD g EV.a=dX EV (sS "Atom.__init__")/\eD g EP.a=dX EP (sS "Wire.__init__")/\MF g (zL w (sE g) (boot_heap w.params))=true/\∀li∈fF,h.get? li.P=some (tabObj #[])
theorem Lo.keeps{h h':Heap}(x:Lo h)(k:∀b o,h.get? b=some o->h'.get? b=some o):Lo h':=
 let⟨g,w,a,b,c,d,e,f⟩:=x;⟨g,w,fun i o q=>⟨k _ _ (a i o q).1,(a i o q).2⟩,b,c,d,e,fun li q=>k _ _ (f li q)⟩
theorem abs_get{S:SharedT}{a:Addr}{o:Obj}(h1:a<S.n)(h2:S.tree.get a=some o)(h3:o.isFreed=false):S.abs.heap.get? a=some o:=by
 rw[Heap.get?_some_iff]
 refine⟨?_,h3⟩
 show(absHeap S.tree S.n S.life).objs[a]? =_
 rw[absHeap_at,if_pos h1,h2];rfl
theorem Hq{S:SharedT}{a:Addr}{o:Obj}(h:yJ S a=some o):S.abs.heap.get? a=some o/\a∉IA:=by
 unfold yJ at h
 cases q:Nat.blt a S.n&& !(IA.contains a)with
 |false=>rw[q] at h;cases h
 |true=>
  rw[q] at h
  obtain⟨o',h1,h2⟩:=Option.bind_eq_some_iff.mp h
  have z:o'=o/\o.isFreed=false:=by
   obtain⟨c,d,dt,sl⟩:=o'
   cases dt with
   |freed=>cases h2
   |_=>cases h2;exact⟨rfl,rfl⟩
  exact⟨abs_get (Nat.blt_eq.mp (a2 q).1) (z.1▸h1) z.2,fun m=>Bool.noConfusion ((List.contains_iff_mem.mpr m).symm.trans ((Bool.not_eq_true' _).mp (a2 q).2))⟩
theorem PL{S:SharedT}{w:World}(h:Lz w S=(sF.map (fun i=>dX i i.q),dX EV (sS "Atom.__init__"),dX EP (sS "Wire.__init__"),true,fF.map (fun _=>some (tabObj #[])),true)):Lo S.abs.heap:=by
 obtain⟨h1,h⟩:=Prod.mk.inj h
 obtain⟨h2,h⟩:=Prod.mk.inj h
 obtain⟨h3,h⟩:=Prod.mk.inj h
 obtain⟨h4,h⟩:=Prod.mk.inj h
 obtain⟨h5,h6⟩:=Prod.mk.inj h
 exact⟨yJ S,w,fun a o e=>Hq e,h1,h2,h3,h4,fun li hli=>abs_get (Nat.blt_eq.mp (List.all_eq_true.mp h6 li hli)) (List.map_inj_left.mp h5 li hli) rfl⟩
theorem I_(w:World)(os:OsState):∃S,topRun treeTable pw w 11 (some (.ref 6)) 6000 ⟨boot_heap w.params,Array.mk [],boot_drawn,boot_toks,os⟩ (topStub pw)=some S/\
  (staticsOk (importedModules pw.main.body) (boot_heap w.params) S.heap&&namesBound pw S.heap&&gensDone S&&laidKept (boot_heap w.params) S.heap)=true/\
  openSeen q0 rp (importedModules pw.main.body) QR true S=openGood q0 rp/\Lo S.heap:=by
 obtain⟨S,h1,h2⟩:=Option.map_eq_some_iff.mp (G0 w os)
 obtain⟨h3,h4⟩:=Prod.mk.inj h2
 obtain⟨h5,h6⟩:=Prod.mk.inj h3
 exact⟨S.abs,JK (S:=S.abs) h1 (Hh pw w) Mo (Jh w os),h5,h6,PL (w:=w) h4⟩
theorem OS:LeftO pw q0 rp QR (fun s=>Lo s.heap) (fun _=>True) 6000:=by
 refine Gw (H₀:=boot_heap) (gs₀:=Array.mk []) (d₀:=boot_drawn) (k₀:=boot_toks) (m₀:=11) (ann:=some (.ref 6)) N7 Oh fun w os=>?_
 obtain⟨S,a,b,c,d⟩:=I_ w os
 exact⟨S,a,b,c,propext ⟨fun _=>trivial,fun _=>d⟩⟩
theorem HE{p:Program}{l:List Str}{mean:ExcName->Option Value}{mg mb:Str->Option Value}{h h':Heap}(T:Top p l mean mg mb h)(hi:importsNone p=true)(hk:∀b o,h.get? b=some o->o.cls≠.none\/b=cStatics->h'.get? b=some o)(hg:∀o,h.get? mainGlobals=some o->h'.get? mainGlobals=some o)(hb:∀o,h.get? builtinsNs=some o->h'.get? builtinsNs=some o)(hm:∀o,h.get? sysModules=some o->h'.get? sysModules=some o):
  ∃p l mean mg mb,Top p l mean mg mb h':=by
 have hs:∀o,h.get? cStatics=some o->h'.get? cStatics=some o:=fun o e=>hk _ _ e (.inr rfl)
 obtain⟨mc,d1,d2⟩:=T.nodigits
 obtain⟨bm,ob,b1,b2,b3,b4,b5,b6⟩:=T.bmain
 have hcl:ob.cls≠.none:=by rw[b4];exact fun e=>by cases e
 let pE:Program:={p with main:={p.main with body:=[]}}
 refine⟨pE,l++(recsOf p).map (·.name)++(litsOf p).map (·.1)++(clssOf p l).map (·.name),mean,mg,mb,?_⟩
 refine⟨T.g.at hg,T.b.at hb,T.nolimit.at hs,⟨mc,d1.at hs,d2⟩,fun d hd=>?_,fun o ho=>?_,fun x d hx=>?_,fun x h1 h2 h3 h4 h5=>?_,T.builtins,fun d hd=>?_,⟨bm,ob,b1,b2,hk _ _ b3 (.inl hcl),b4,b5,b6⟩,fun _=>?_⟩
 ·have:d∈([]:List DefRec):=hd
  cases this
 ·have:o∈([]:List OwnSpec):=ho
  cases this
 ·have:(none:Option PyData)=some d:=hx
  cases this
 ·simp only[List.mem_append,not_or] at h2
  exact T.free x h1 h2.1.1.1 h2.1.1.2 h2.1.2 h2.2
 ·have:d∈([]:List DefRec):=hd
  cases this
 ·obtain⟨⟨mc,c1,c2⟩,⟨mm,m1,m2⟩,⟨mb',i1,i2⟩,⟨mg',bm',ob',g1,g2,g3,g4,g5⟩⟩:=T.seer hi
  exact⟨⟨mc,c1.at hs,c2⟩,⟨mm,m1.at hm,m2⟩,⟨mb',i1.at hb,i2⟩,⟨mg',bm',ob',g1.at hg,g2,hk _ _ g3 (.inl (by rw[g4];exact fun e=>by cases e)),g4,g5⟩⟩
theorem KC:(defOf q0 fT.row.name).map (fun x=>(pw.theDef fT.row.name,kwWritten? x.1.params.kwonlyargs x.1.params.kw_defaults))=(defOf q0 fT.row.name).map (fun x=>(some (x.1.params,x.1.body,x.1.scope),some x.2)):=by kernel_rfl
theorem FW:(defOf q0 fT.row.name).isSome=true:=by kernel_rfl
theorem Ac:chainsOk q0=true:=by kernel_rfl
theorem Gp:opensWell pw=true:=by kernel_rfl
theorem Gd:pw.bare:=⟨by kernel_rfl,by kernel_rfl,by kernel_rfl,by kernel_rfl,by kernel_rfl,by kernel_rfl⟩
theorem vm:fT.row.toRowW.promised:=⟨[.list []],by kernel_rfl,by kernel_rfl⟩
theorem Ea:PySem.W.frees fT.row.toRowW=true:=by kernel_rfl
theorem xB:importsNone q0=true:=by kernel_rfl
theorem SW:sreFenced pw.main=true:=by rw[Fast.te11788848310118352699];kernel_rfl
theorem Tp:((moduleNames pw.main.body).isEmpty||lookedIntoSs (moduleNames pw.main.body) pw.main.body)=true:=by kernel_rfl
theorem TJ:namesResolve pw=true:=by rw[Fast.te8377067652309620493];kernel_rfl
theorem Th:pw.boundNames.all (fun n=> !worldNames.contains n)=true:=by kernel_rfl
theorem SJ:noRoadLSs {strict:= !(importedModules pw.main.body).all cThrough.contains,foot:=none,bare:=(["vars","dir","locals"]:List Str).filter (readsOut pw pw.main.body)} pw.main.body=true:=by
 rw[Fast.te8326940854005059898];kernel_rfl
theorem S8:(namesMeet pw pw.main.body fun _ n=>attrL n)=true:=by rw[Fast.te17119622794617984870];kernel_rfl
theorem SQ:looksOpen pw=true:=look_both (look_both (look_both (look_both (look_both SW Tp) TJ) Th) SJ) S8
theorem Sz:fT.row.partSaid=true:=by
 unfold OpenRow.partSaid
 refine look_both (look_both (look_both (look_both (look_both (look_both (look_both (look_both (look_both (look_both (look_both (look_both (look_both ?_ ?_) ?_) ?_) ?_) ?_) ?_) ?_) ?_) ?_) ?_) ?_) ?_) ?_
 ·exact SQ
 all_goals kernel_rfl
theorem RT:fT.row.wellSaid=true:=by
 unfold OpenRow.wellSaid
 refine look_both (look_both Sz ?_) ?_
 all_goals kernel_rfl
theorem Tw:(decide (fT.foot<=(behindTheImports fT.prog).length))=true:=by kernel_rfl
theorem Tu:fT.footing.all footLine=true:=by kernel_rfl
theorem To:noClassBlock fT.prog fT.footing=true:=by kernel_rfl
theorem SU:fT.most.all (fun n=>decide (63<=n))=true:=by kernel_rfl
theorem Rk:fT.bound.all (fun n=>decide (2^63<=n))=true:=by kernel_rfl
theorem Sv:noRoadLSs {strict:=true,foot:=some fT.bound',writes:=fT.writes,may:=fT.may} fT.footing=true:=by rw[Fast.te8326940854005059898];kernel_rfl
theorem TL:(defStands fT.about fT.above)=true:=by kernel_rfl
theorem Tn:fT.namesIt=true:=by rw[Fast.te16286561074155671207];kernel_rfl
theorem Sw:(["type","isinstance","issubclass","getattr","hasattr"]:List Str).all (fun n=>fT.about != [n])=true:=by kernel_rfl
theorem SY:fT.bound'.all (fun n=> !builtinNamed n||fT.about==[n]|| !fT.reads n)=true:=by kernel_rfl
theorem RB:(!fT.writes||(fT.prog.main.body.flatMap importedNames).all fun n=> !fT.reads n)=true:=by kernel_rfl
theorem Qo:(fT.prog.main.body.flatMap importedNames).all (fun n=> !fT.reads n||(drawsOf n fT.prog.main.body).all fun mn=>mn.2 != ("attrgetter":Str)&&mn.2 != ("methodcaller":Str))=true:=by kernel_rfl
theorem Rg:namesMeet fT.prog fT.footing (fun sc n=>(!(["type","isinstance","issubclass","getattr","hasattr"]:List Str).contains n||sc.names.lookup n==some .globalImplicit)&&
  (fT.may != some n||sc.kind==.module||sc.names.lookup n==some .globalImplicit))=true:=by rw[Fast.te17119622794617984870];kernel_rfl
theorem Rv:fT.own.contains fT.name=true:=by kernel_rfl
theorem Rq:(fT.own.eraseDups.length==fT.own.length)=true:=by kernel_rfl
theorem Q0:fT.own.all (fun n=> !builtinNamed n)=true:=by kernel_rfl
theorem Q1:namesMeet fT.prog fT.above (fun _ n=> !fT.own.contains n)=true:=by rw[Fast.te17119622794617984870];kernel_rfl
theorem Q2:(namesMeet fT.prog fT.footing fun sc n=>sc.kind==.module||sc.names.lookup n != some .globalExplicit)=true:=by rw[Fast.te17119622794617984870];kernel_rfl
theorem HL:fT.wellSaid=true:=by
 unfold OpenLaw.wellSaid
 exact(look_both (look_both (look_both (look_both (look_both (look_both (look_both (look_both (look_both (look_both (look_both (look_both (look_both (look_both (look_both (look_both (look_both (look_both RT Tw) Tu) To) SU) Rk) Sv) TL) Tn) Sw) SY) RB) Qo) Rg) Rv) Rq) Q0) Q1) Q2)
section
noncomputable abbrev oc(c:UInt8):V:=.d (.int (c.toNat:Int))
noncomputable def isPlain(i:Int):Bool:=decide (32<=i)&&decide (i<=126)
noncomputable def gO(i:Int):Bool:=decide (33<=i)&&decide (i<=126)
noncomputable def cx(i:Int):Bool:=gO i&& !([40,41,123,37,42,34,92,93].any fun c:UInt8=>(c.toNat:Int)==i)
noncomputable def ez(i:Int):Bool:=cx i||decide (i=93)
noncomputable def oh(i:Int):Bool:=ez i&&decide (i≠43)
noncomputable def dU(i:Int):Bool:=gO i&& !([40,41,123,34,93].any fun c:UInt8=>(c.toNat:Int)==i)
noncomputable def l_(i:Int):Bool:=(decide (48<=i)&&decide (i<=57))||[58,44,42].any fun c:UInt8=>(c.toNat:Int)==i
noncomputable def cH(i:Int):Bool:=decide (48<=i)&&decide (i<=57)
noncomputable def bc(i:Int):Bool:=gO i&& !([91,93,40,41].any fun c:UInt8=>(c.toNat:Int)==i)
noncomputable def cU(i:Int):Bool:=decide (32<=i)&&decide (i<=126)
theorem Ht{b c:Bool}{Q:Bool->Prop}(h:Q (b&&c)):cond b (Q c) (Q false):=by cases b<;>exact h
theorem RH{b c:Bool}{Q:Bool->Prop}(h:Q (b||c)):cond b (Q true) (Q c):=by cases b<;>exact h
section
variable{n:Nat}{i:Int}{μ:Mu}{Q:KV}
noncomputable abbrev bR(μ:Mu)(Q:KV)(r:Bool):Prop:=nJ μ Q μ (.bool r)
theorem jD(h:Q (.bool (isPlain i)) μ):ae (n+1) 0 [.int i] μ Q:=ph (Ht (Q:=bR μ Q) (ab h))
theorem gk(h:Q (.bool (gO i)) μ):ae (n+1) 14 [.int i] μ Q:=rD (Ht (Q:=bR μ Q) (ab h))
theorem jZ(h:Q (.bool (cU i)) μ):ae (n+1) 65 [.int i] μ Q:=r_ (Ht (Q:=bR μ Q) (ab h))
theorem cu(h:Q (.bool (cH i)) μ):ae (n+1) 20 [.int i] μ Q:=zI (Ht (Q:=bR μ Q) (ab h))
theorem s7(h0:0<=i)(h1:i<256)(h:Q (.bool (l_ i)) μ):ae (n+1) 19 [.int i] μ Q:=by
 refine tA ?_
 have e:l_ i=(decide (48<=i)&&decide (i<=57)||[58,44,42].any fun c:UInt8=>(c.toNat:Int)==i):=rfl
 rw[e] at h
 cases e1:decide (48<=i)<;>cases e2:decide (i<=57)<;>rw[e1,e2] at h
 ·exact aZ e1 ⟨h0,h1,ab h⟩
 ·exact aZ e1 ⟨h0,h1,ab h⟩
 ·exact aW e1 (aZ e2 ⟨h0,h1,ab h⟩)
 ·exact aW e1 (aW e2 (ab h))
theorem ki(h0:0<=i)(h1:i<256)(h:Q (.bool (cx i)) μ):ae (n+2) 15 [.int i] μ Q:=by
 refine rU (gk ?_)
 cases e:gO i
 ·exact ab (by rwa [cx,e] at h)
 ·exact⟨h0,h1,ab (by rwa [cx,e] at h)⟩
theorem eu(h0:0<=i)(h1:i<256)(h:Q (.bool (ez i)) μ):ae (n+3) 16 [.int i] μ Q:=by
 refine mO (ki h0 h1 ?_)
 cases e:cx i<;>exact ab (by rwa [ez,e] at h)
theorem tF(h0:0<=i)(h1:i<256)(h:Q (.bool (oh i)) μ):ae (n+4) 17 [.int i] μ Q:=by
 refine sT (eu h0 h1 ?_)
 cases e:ez i<;>exact ab (by rwa [oh,e] at h)
theorem pJ(h0:0<=i)(h1:i<256)(h:Q (.bool (dU i)) μ):ae (n+2) 18 [.int i] μ Q:=by
 refine pe (gk ?_)
 cases e:gO i
 ·exact ab (by rwa [dU,e] at h)
 ·exact⟨h0,h1,ab (by rwa [dU,e] at h)⟩
theorem qU(h0:0<=i)(h1:i<256)(h:Q (.bool (bc i)) μ):ae (n+2) 64 [.int i] μ Q:=by
 refine rN (gk ?_)
 cases e:gO i
 ·exact ab (by rwa [bc,e] at h)
 ·exact⟨h0,h1,ab (by rwa [bc,e] at h)⟩
theorem mK{c:Nat}(h:Q (.int (lowerCode c)) μ):ae (n+1) 3 [.int c] μ Q:=by
 refine wX ?_
 by_cases h1:65<=c
 ·by_cases h2:c<=90
  ·rw[lowerCode,if_pos ⟨h1,h2⟩] at h
   exact ak (cN h1) (ak (cN h2) (ab h))
  ·rw[lowerCode,if_neg fun e=>h2 e.2] at h
   exact ak (cN h1) (ai (fun e=>h2 (Int.ofNat_le.mp e)) (ab h))
 ·rw[lowerCode,if_neg fun e=>h1 e.1] at h
  exact ai (fun e=>h1 (Int.ofNat_le.mp e)) (ab h)
end
end
section
theorem lh{α:Type}(f:α->Nat):∀(l:List α),(∀x∈l,f x<256)->oA (l.map fun x=>D.int ((f x:Nat):Int))=some (l.map fun x=>UInt8.ofNat (f x))
 |[],_=>rfl
 |x::l,h=>by
  have hx:Ny (.int ((f x:Nat):Int))=some (UInt8.ofNat (f x)):=(if_pos ⟨Int.natCast_nonneg _,il (h x (.head _))⟩:(if 0<=((f x:Nat):Int)/\((f x:Nat):Int)<256 then some (UInt8.ofNat ((f x:Nat):Int).toNat)else none)=_)
  show(Ny (.int ((f x:Nat):Int))).bind (fun a=>(oA (l.map fun x=>D.int ((f x:Nat):Int))).map (a::·))=_
  rw[hx,lh f l fun y hy=>h y (.tail _ hy)]
  rfl
theorem fq{α:Type}(f:α->List Nat):∀l:List α,strsOf (l.map fun x=>D.str (f x))=some (l.map f)
 |[]=>rfl
 |a::r=>congrArg (Option.map (f a::·)) (fq f r)
theorem bP{α:Type}(f:α->List UInt8):∀l:List α,me (l.map fun x=>D.bytes (f x))=some (l.map f)
 |[]=>rfl
 |a::r=>congrArg (Option.map (f a::·)) (bP f r)
theorem fY{α:Type}(f:α->Bool):∀l:List α,boolsOf (l.map fun x=>D.bool (f x))=some (l.map f)
 |[]=>rfl
 |a::r=>congrArg (Option.map (f a::·)) (fY f r)
theorem t6{α β:Type}(f:β->α):∀l:List β,aq [] (l.map fun x=>[f x])=l.map f
 |[]=>rfl
 |[_]=>rfl
 |a::b::r=>congrArg (f a::·) (t6 f (b::r))
theorem dA{α:Type}{o:Option α}{x:α}{Q:α->Prop}(e:o=some x)(q:Q x):on o Q:=e▸q
theorem j8{α:Type}{l:List α}{f:α->Nat}{μ:Mu}{Q:KV}(hl:l.length<=lim)(q:Q (.str (l.map f)) μ):P9 [] μ Q (l.map fun x=>D.str [f x]):=
 dA (fq (fun x=>[f x]) l) (by rw[t6];exact⟨by rw[TN];exact hl,q⟩)
noncomputable def dz(n:Nat):Nat:=if 97<=n/\n<=122 then n-32 else n
noncomputable def aK(l:List Nat):List Nat:=l.map dz
noncomputable def ax(l:List Nat):List Nat:=l.map lowerCode
noncomputable def eH(c:UInt8):UInt8:=UInt8.ofNat (lowerCode c.toNat)
noncomputable def aa(l:List Nat):List UInt8:=l.map UInt8.ofNat
noncomputable def codes(l:List UInt8):List Nat:=l.map UInt8.toNat
theorem jd{c m:Nat}(h:c<m)(hm:123<=m):lowerCode c<m:=by unfold lowerCode;split<;>omega
theorem vx{c m:Nat}(h:c<m):dz c<m:=by unfold dz;split<;>omega
theorem u8(c:UInt8):c.toNat<256:=UInt8.toNat_lt c
section
variable{n:Nat}{i:Int}{μ:Mu}{Q:KV}
theorem oF{c:Nat}(h:c<1114112)(q:Q (.str [c]) μ):0<=(c:Int)/\(c:Int)<1114112/\Q (.str [(c:Int).toNat]) μ:=⟨Int.natCast_nonneg _,il h,q⟩
theorem GH{l:List D}{r:List UInt8}(e:oA l=some r)(hl:r.length<=lim)(q:Q (.bytes r) μ):on (oA l) (Dt μ Q):=dA e ⟨hl,q⟩
theorem wB{l:List UInt8}(hl:l.length<=lim)(h:Q (.bytes (l.map eH)) μ):ae (n+2) 4 [.bytes l] μ Q:=by
 refine J7 (id_map hl (aQ (fun c:UInt8=>D.int (lowerCode c.toNat:Nat)) rfl hl (fun c hc K hK=>mK hK) ?_))
 exact GH (lh (fun c:UInt8=>lowerCode c.toNat) l fun c _=>jd (u8 c) (TF rfl)) (by rw[TN];exact hl) (ab h)
theorem ef{l:List Nat}(hl:l.length<=lim)(h7:∀c∈l,c<128)(h:Q (.str (ax l)) μ):ae (n+2) 5 [.str l] μ Q:=by
 refine vD (id_map hl (aQ (fun c:Nat=>D.str [lowerCode c]) rfl hl (fun c hc K hK=>mK (oF ?_ hK)) (j8 hl (ab h))))
 exact Nat.lt_trans (jd (h7 c hc) (TF rfl)) (TF rfl)
theorem bM{l:List Nat}(hl:l.length<=lim)(h7:∀c∈l,c<128)(h:Q (.str (aK l)) μ):ae (n+2) 6 [.str l] μ Q:=by
 refine uS (id_map hl (aQ (fun c:Nat=>D.str [dz c]) rfl hl (fun c hc K hK=>?_) (j8 hl (ab h))))
 have h0:=h7 c hc
 by_cases q1:97<=c
 ·by_cases q2:c<=122
  ·rw[dz,if_pos ⟨q1,q2⟩] at hK
   have e:(c:Int)-32=((c-32:Nat):Int):=by omega
   refine ak q1 (ak q2 ?_)
   show 0<=(c:Int)-32/\(c:Int)-32<1114112/\K (.str [((c:Int)-32).toNat]) μ
   rw[e]
   exact oF (by omega) hK
  ·rw[dz,if_neg fun e=>q2 e.2] at hK
   exact ak q1 (ai q2 hK)
 ·rw[dz,if_neg fun e=>q1 e.1] at hK
  exact ai q1 hK
theorem mT{l:List UInt8}(hl:l.length<=lim)(h7:∀c∈l,c.toNat<128)(h:Q (.str (codes l)) μ):ae (n+1) 7 [.bytes l] μ Q:=by
 refine vr ⟨hl,Int.natCast_nonneg _,cN hl,yx (fun j:Nat=>V.int (j:Int)) (vs0:=[some (.bytes l),none]) rfl _ .same (fun j hj K hK=>?_) (fun vs' hv=>?_)⟩
 ·have hj:j<l.length:=List.mem_range.mp hj
  have h0:=h7 l[j] (List.getElem_mem hj)
  exact⟨Int.natCast_nonneg _,ah (List.getElem?_eq_getElem hj) hl (ai (fun e=>Nat.not_lt.mpr (Nat.le_of_lt_succ h0) (Int.ofNat_lt.mp e)) hK)⟩
 ·have fin:aA n (fc.body.drop 1) ⟨[some (.bytes l),none],[]⟩ μ (aR μ Q):=id_map hl (aQ (fun c:UInt8=>D.str [c.toNat]) rfl hl (fun c hc K hK=>oF (Nat.lt_trans (u8 c) (TF rfl)) hK) (j8 hl (ab h)))
  exact hv.on fin fun x=>fin
theorem aP{l:List Nat}(hl:l.length<=lim)(h7:∀c∈l,c<128)(h:Q (.bytes (aa l)) μ):ae (n+1) 8 [.str l] μ Q:=by
 refine s8 ⟨hl,Int.natCast_nonneg _,cN hl,yx (fun j:Nat=>V.int (j:Int)) (vs0:=[some (.str l),none]) rfl _ .same (fun j hj K hK=>?_) (fun vs' hv=>?_)⟩
 ·have hj:j<l.length:=List.mem_range.mp hj
  have h0:=h7 l[j] (List.getElem_mem hj)
  exact ah (List.getElem?_eq_getElem hj) hl (ai (fun e=>Nat.not_lt.mpr (Nat.le_of_lt_succ h0) (Int.ofNat_lt.mp e)) hK)
 ·have fin:aA n (eF.body.drop 1) ⟨[some (.str l),none],[]⟩ μ (aR μ Q):=id_map hl (aQ (fun c:Nat=>D.int (c:Int)) rfl hl (fun c hc K hK=>hK) (GH (lh (fun c:Nat=>c) l fun c hc=>Nat.lt_trans (h7 c hc) (TF rfl)) (by rw[TN];exact hl) (ab h)))
  exact hv.on fin fun x=>fin
noncomputable def numOf(l:List UInt8):Nat:=l.foldl (fun a c=>a*10+(c.toNat-48)) 0
theorem si{c:UInt8}(h:cH c.toNat=true):48<=c.toNat/\c.toNat<=57:=by
 have h:=Bool.and_eq_true_iff.mp h
 exact⟨Int.ofNat_le.mp (of_decide_eq_true h.1),Int.ofNat_le.mp (of_decide_eq_true h.2)⟩
theorem F_{c:UInt8}{a m:Nat}(h:cH c.toNat=true):(a*10+(c.toNat-48)+1)*10^m<=(a+1)*10^(m+1):=by
 have h1:=si h
 rw[Nat.pow_succ,<-Nat.mul_assoc,Nat.mul_right_comm]
 exact Nat.mul_le_mul_right _ (by omega)
theorem B4:∀(l:List UInt8) (a:Nat) {v0 v2:Option V} {Q:KS},(∀c∈l,cH c.toNat=true)->(a+1)*10^l.length<=10^90->(∀v2',Q .next ⟨[v0,some (.int ((l.foldl (fun a c=>a*10+(c.toNat-48)) a:Nat):Int)),v2'],[]⟩ μ)->
  wF n (.lv 2) (l.map oc) none [.assign (.lv 1) (.bin .sub (.bin .add (.bin .mul (.lv 1) (.const (.d (.int 10)))) (.lv 2)) (.const (.d (.int 48))))] ⟨[v0,some (.int (a:Int)),v2],[]⟩ μ Q
 |[],a,v0,v2,Q,h,hb,q=>n8 ay (q _)
 |c::l,a,v0,v2,Q,h,hb,q=>by
  have h2:=si (h c (.head _))
  have h3:a+1<=10^90:=Ta (Nat.le_mul_of_pos_right _ (Nat.pow_pos (Nat.zero_lt_succ 9))) hb
  have e:((a:Int)*10+(c.toNat:Int)-48)=((a*10+(c.toNat-48):Nat):Int):=by omega
  have go:=B4 l (a*10+(c.toNat-48)) (v0:=v0) (v2:=some (oc c)) (Q:=Q) (fun x hx=>h x (.tail _ hx)) (Ta (F_ (h c (.head _))) hb) q
  rw[<-e] at go
  exact kM ay ⟨Ta (Nat.le_of_succ_le h3) (Nat.pow_le_pow_right (Nat.zero_lt_succ 9) (TF rfl)),TF rfl,go⟩
theorem ck{l:List UInt8}(hl:l.length<=60)(hf:∀c∈l,cH c.toNat=true)(h:Q (.int (numOf l:Nat)) μ):ae (n+1) 21 [.bytes l] μ Q:=by
 refine lF (id_map (Ta hl (TF rfl)) ?_)
 rw[List.map_map]
 refine B4 l 0 hf ?_ (fun v2'=>ab h)
 rw[Nat.zero_add,Nat.one_mul]
 exact Nat.pow_le_pow_right (Nat.zero_lt_succ 9) (Ta hl (TF rfl))
end
end
section
noncomputable def Pl(d:List UInt8)(p:Nat)(s:List UInt8):Prop:=∃pre,d=pre++s/\pre.length=p
section
variable{d s t:List UInt8}{p:Nat}{c:UInt8}
theorem Pl.len(h:Pl d p s):d.length=p+s.length:=let⟨pre,e,e2⟩:=h;e▸e2▸TM
theorem Pl.step(h:Pl d p (t++s)):Pl d (p+t.length) s:=let⟨pre,e,e2⟩:=h;⟨pre++t,e.trans (TP ..).symm,e2▸TM⟩
theorem Pl.one(h:Pl d p (c::s)):Pl d (p+1) s:=Pl.step (t:=[c]) h
theorem Pl.get(h:Pl d p (c::s)):d[p]? =some c:=by
 obtain⟨pre,rfl,rfl⟩:=h
 rw[List.getElem?_append_right (TG _),Nat.sub_self];rfl
theorem Pl.drop(h:Pl d p s):d.drop p=s:=let⟨pre,e,e2⟩:=h;e▸e2▸List.drop_left
theorem Pl.le(h:Pl d p s):p<=d.length:=h.len▸Nat.le_add_right ..
theorem Pl.lt(h:Pl d p (c::s)):p<d.length:=h.len▸Nat.lt_add_of_pos_right (Nat.zero_lt_succ _)
theorem Pl.Np(h:Pl d p (c::s)):(p:Int)<(d.length:Int):=il h.lt
theorem Pl.end(h:Pl d p []):¬(p:Int)<(d.length:Int):=fun e=>Nat.lt_irrefl p (Nat.lt_of_lt_of_eq (Int.ofNat_lt.mp e) h.len)
theorem Pl.zK(h:Pl d p (t++s)):t.length<=d.length:=by rw[h.len,TM];omega
theorem sU{Q:UInt8->Prop}(h:Pl d p (c::s))(hl:d.length<=lim)(q:Q c):w_ d (p:Int) Q:=ah h.get hl q
theorem Gj(h:Pl d p s)(m:Nat):cut d (some (p:Int)) (some ((p+m:Nat):Int))=s.take m:=by
 have h1:=h.len
 have e1:clip (p:Int) d.length=p:=by simp only[clip];split<;>omega
 have e2:clip ((p+m:Nat):Int) d.length=min (p+m) d.length:=by simp only[clip];split<;>omega
 simp only[cut,pf,rY,e1,e2]
 rw[List.drop_take,h.drop,show min (p+m) d.length-p=min m s.length by omega,<-List.take_eq_take_min]
theorem Pl.cut(h:Pl d p (t++s)):Mine.cut d (some (p:Int)) (some ((p+t.length:Nat):Int))=t:=by
 rw[Gj h,List.take_left]
end
section
variable{n:Nat}{μ:Mu}{Q:KV}{k:Nat}{d s t:List UInt8}{p:Nat}{c:UInt8}
theorem aO(hk:k<μ.length)(hl:d.length<=lim)(h:Pl d p (c::s))(q:Q (oc c) (sw μ k d p)):ae (n+1) 23 [.loc k] (sw μ k d p) Q:=
 GR (af hk (af hk ⟨hl,ak h.Np (af hk (af hk ⟨Int.natCast_nonneg _,sU h hl (ab q)⟩))⟩))
theorem aU(hk:k<μ.length)(hl:d.length<=lim)(h:Pl d p (t++s))(q:Q (.bool true) (sw μ k d (p+t.length))):ae (n+1) 24 [.loc k,.bytes t] (sw μ k d p) Q:=
 have ht:=Ta h.zK hl
 yz (af hk (af hk (af hk ⟨ht,hl,ai (fun e=>e h.cut) (af hk ⟨ht,af hk (yS (p+t.length) (au hk q))⟩)⟩)))
theorem bp(hk:k<μ.length)(hl:d.length<=lim)(h:Pl d p s)(ht:t.length<=lim)(hne:s.take t.length≠t)(q:Q (.bool false) (sw μ k d p)):ae (n+1) 24 [.loc k,.bytes t] (sw μ k d p) Q:=
 yz (af hk (af hk (af hk ⟨ht,hl,ak (Gj h t.length▸hne) (ab q)⟩)))
theorem iw(hk:k<μ.length)(hl:d.length<=lim){w:V}(h:Pl d p (t++s))(q:Q .none (sw μ k d (p+t.length))):ae (n+2) 25 [.loc k,.bytes t,w] (sw μ k d p) Q:=
 EY (af hk (aU hk hl h (au hk q)))
theorem cD(hk:k<μ.length)(hl:d.length<=lim)(h:Pl d p (32::s))(q:Q .none (sw μ k d (p+1))):ae (n+3) 26 [.loc k] (sw μ k d p) Q:=
 EI (af hk (iw (t:=[32]) hk hl h (au hk q)))
theorem NQ(hk:k<μ.length)(hl:d.length<=lim)(h:Pl d p [])(q:Q .none (sw μ k d p)):ae (n+2) 27 [.loc k] (sw μ k d p) Q:=
 Iq (af hk (bp (t:=[13,10]) hk hl h (TF rfl) nofun (af hk (af hk ⟨hl,ai (fun e=>e (congrArg _ h.len.symm)) (au hk q)⟩))))
noncomputable def Fits(n:Nat)(f:V)(b:UInt8->Bool):Prop:=∀(c:UInt8) (μ:Mu) (Q:KV),Q (.bool (b c)) μ->BO n f [oc c] μ Q
noncomputable abbrev Rn:Ts:=.bool true [(.val (.cmp (.attr (.lv 0) .at) .lt (.call (.const (.bi .len)) [(.attr (.lv 0) .data)]))),(.val (.call (.lv 1) [(.sub (.attr (.lv 0) .data) (.attr (.lv 0) .at))]))]
noncomputable abbrev QM:List St:=[(.assign (.attr (.lv 0) .at) (.bin .add (.attr (.lv 0) .at) (.const (.d (.int 1)))))]
theorem yf{f:V}{b:UInt8->Bool}{v2:Option V}{Q:KS}(hf:Fits n f b)(hk:k<μ.length)(hl:d.length<=lim):∀(t:List UInt8) {p:Nat},Pl d p (t++s)->(∀c∈t,b c=true)->(∀c,s.head?=some c->b c=false)->
  Q .next ⟨[some (.loc k),some f,v2],[]⟩ (sw μ k d (p+t.length))->wW n Rn QM ⟨[some (.loc k),some f,v2],[]⟩ (sw μ k d p) Q
 |[],p,h,ht,hs,q=>by
  cases s with
  |nil=>exact aD (af hk (af hk ⟨hl,ai h.end q⟩))
  |cons c s=>exact aD (af hk (af hk ⟨hl,ak h.Np (af hk (af hk ⟨Int.natCast_nonneg _,sU h hl (hf c _ _ (aZ (hs c rfl) q))⟩))⟩))
 |c::t,p,h,ht,hs,q=>
  have q:Q .next ⟨[some (.loc k),some f,v2],[]⟩ (sw μ k d (p+1+t.length)):=Nat.add_right_comm p 1 t.length▸q
  aD (af hk (af hk ⟨hl,ak h.Np (af hk (af hk ⟨Int.natCast_nonneg _,sU h hl (hf c _ _ (aW (ht c (.head _)) (af hk (af hk
   (yS (p+1) (yf hf hk hl t (Pl.one h) (fun x hx=>ht x (.tail _ hx)) hs q))))))⟩))⟩))
theorem lW{f:V}{b:UInt8->Bool}(hf:Fits n f b)(hk:k<μ.length)(hl:d.length<=lim)(h:Pl d p (t++s))(ht:∀c∈t,b c=true)(hs:∀c,s.head?=some c->b c=false)(q:Q (.bytes t) (sw μ k d (p+t.length))):ae (n+1) 28 [.loc k,f] (sw μ k d p) Q:=
 K3 (af hk (yf hf hk hl t h ht hs (af hk (af hk ⟨hl,au hk (h.cut.symm▸q)⟩))))
end
end
section
theorem lL(c:UInt8):(0:Int)<=c.toNat/\(c.toNat:Int)<256:=⟨Int.natCast_nonneg _,il (u8 c)⟩
theorem len0{α:Type}{t:List α}(h:t≠[]):¬(t.length:Int)=0:=fun e=>h (List.eq_nil_of_length_eq_zero (Int.ofNat.inj e))
noncomputable def Tok(b:UInt8->Bool)(t s:List UInt8):Prop:=(∀c∈t,b c=true)/\∀c,s.head?=some c->b c=false
noncomputable abbrev dJ(t:List UInt8):Prop:=∀c∈t,cH c.toNat=true
theorem cP(t:List UInt8):(codes t).length=t.length:=TN _
theorem nx{t:List UInt8}(h7:∀c∈t,c.toNat<128):∀c∈codes t,c<128:=fun c hc=>let⟨x,hx,e⟩:=List.mem_map.mp hc;e▸h7 x hx
section
variable{n:Nat}{μ:Mu}{Q:KV}{k:Nat}{d s t:List UInt8}{p:Nat}{c:UInt8}
theorem Ep:Fits (n+2) (.fn 15) fun c=>cx c.toNat:=fun c μ Q q=>ki (lL c).1 (lL c).2 q
theorem Et:Fits (n+3) (.fn 16) fun c=>ez c.toNat:=fun c μ Q q=>eu (lL c).1 (lL c).2 q
theorem Ga:Fits (n+4) (.fn 17) fun c=>oh c.toNat:=fun c μ Q q=>tF (lL c).1 (lL c).2 q
theorem yy:Fits (n+2) (.fn 18) fun c=>dU c.toNat:=fun c μ Q q=>pJ (lL c).1 (lL c).2 q
theorem Ir:Fits (n+1) (.fn 19) fun c=>l_ c.toNat:=fun c μ Q q=>s7 (lL c).1 (lL c).2 q
theorem zm:Fits (n+1) (.fn 20) fun c=>cH c.toNat:=fun c μ Q q=>cu q
theorem kN:Fits (n+2) (.fn 64) fun c=>bc c.toNat:=fun c μ Q q=>qU (lL c).1 (lL c).2 q
theorem ua:Fits (n+1) (.fn 65) fun c=>cU c.toNat:=fun c μ Q q=>jZ q
theorem iz{f:V}{b:UInt8->Bool}{w:V}(hf:Fits n f b)(hk:k<μ.length)(hl:d.length<=lim)(h:Pl d p (t++s))(ht:Tok b t s)(h0:t≠[])(h7:∀c∈t,c.toNat<128)(q:Q (.str (codes t)) (sw μ k d (p+t.length))):ae (n+2) 29 [.loc k,f,w] (sw μ k d p) Q:=
 have h2:=Ta h.zK hl
 yu (af hk (lW hf hk hl h ht.1 ht.2 (⟨h2,ai (len0 h0) (mT h2 h7 (au hk q))⟩)))
theorem M8(hk:k<μ.length)(hl:d.length<=lim)(h:Pl d p (t++s))(ht:Tok (fun c=>cx c.toNat) t s)(h0:t≠[])(h7:∀c∈t,c.toNat<128)(q:Q (.str (codes t)) (sw μ k d (p+t.length))):ae (n+5) 30 [.loc k] (sw μ k d p) Q:=
 Fe (af hk (iz Ep hk hl h ht h0 h7 (au hk q)))
theorem NS(hk:k<μ.length)(hl:d.length<=lim)(h:Pl d p (t++s))(ht:Tok (fun c=>cx c.toNat) t s)(h0:t≠[])(h7:∀c∈t,c.toNat<128)(q:Q (.str (aK (codes t))) (sw μ k d (p+t.length))):ae (n+6) 31 [.loc k] (sw μ k d p) Q:=
 Hw (af hk (M8 hk hl h ht h0 h7 (bM (cP t▸Ta h.zK hl) (nx h7) (au hk q))))
theorem AV(hk:k<μ.length)(hl:d.length<=lim)(h:Pl d p (t++s))(ht:Tok (fun c=>l_ c.toNat) t s)(h0:t≠[])(h7:∀c∈t,c.toNat<128)(q:Q (.str (codes t)) (sw μ k d (p+t.length))):ae (n+4) 32 [.loc k] (sw μ k d p) Q:=
 uT (af hk (iz Ir hk hl h ht h0 h7 (au hk q)))
theorem g6(hk:k<μ.length)(hl:d.length<=lim)(h:Pl d p (t++s))(ht:Tok (fun c=>bc c.toNat) t s)(h0:t≠[])(h7:∀c∈t,c.toNat<128)(q:Q (.str (codes t)) (sw μ k d (p+t.length))):ae (n+5) 66 [.loc k] (sw μ k d p) Q:=
 yN (af hk (iz kN hk hl h ht h0 h7 (au hk q)))
theorem nz(hk:k<μ.length)(hl:d.length<=lim)(h:Pl d p (t++s))(ht:Tok (fun c=>cH c.toNat) t s)(h0:t≠[])(h9:t.length<=19)(q:Q (.int (numOf t:Nat)) (sw μ k d (p+t.length))):ae (n+3) 33 [.loc k] (sw μ k d p) Q:=
 have h2:=Ta h.zK hl
 AI (af hk (af hk (lW zm hk hl h ht.1 ht.2 (⟨h2,ai (len0 h0) ⟨h2,ai (fun e=>Nat.not_lt.mpr h9 (Int.ofNat_lt.mp e)) (ck (Ta h9 (TF rfl)) ht.1 (au hk q))⟩⟩))))
end
end
section
variable{n:Nat}{μ:Mu}{Q:KV}{k:Nat}{d s t:List UInt8}{p:Nat}{c:UInt8}
noncomputable def jw(l:List UInt8):List UInt8:=l.flatMap fun c=>if c=34\/c=92 then[92,c]else[c]
noncomputable def dC(c:UInt8):Prop:=1<=c.toNat/\c.toNat<=127/\c≠13/\c≠10
theorem jC{c x:UInt8}(h:c≠x):¬(c.toNat:Int)=(x.toNat:Int):=fun e=>h (UInt8.toNat_inj.mp (Int.ofNat.inj e))
theorem G7{c:UInt8}{l:List UInt8}(h:c=34\/c=92):jw (c::l)=92::c::jw l:=by rw[jw,List.flatMap_cons,if_pos h];rfl
theorem DD{c:UInt8}{l:List UInt8}(h:¬(c=34\/c=92)):jw (c::l)=c::jw l:=by rw[jw,List.flatMap_cons,if_neg h];rfl
theorem JZ{c:UInt8}(h:c≠13/\c≠10):([13,10]:List UInt8).any (fun x=>(x.toNat:Int)==(c.toNat:Int))=false:=
 List.any_eq_false.mpr fun x hx e=>by
  have e:x=c:=UInt8.toNat_inj.mp (Int.ofNat.inj (eq_of_beq e))
  subst e
  cases hx with
  |head=>exact h.1 rfl
  |tail _ hx=>cases hx with
   |head=>exact h.2 rfl
   |tail _ hx=>cases hx
theorem tQ{acc:List UInt8}{Q:KS}(hk:k<μ.length)(hl:d.length<=lim)(h:Pl d p (c::s))(hq:dC c)(hz:acc.length<lim)(q:Q .next ⟨[some (.loc k),some (.loc μ.length)],[]⟩ (sw (μ++[.eX (acc++[c])]) k d (p+1))):
  aA (n+1) ((cZ.at 2).wb.drop 1) ⟨[some (.loc k),some (.loc μ.length)],[]⟩ (sw (μ++[.eX acc]) k d p) Q:=
 have hk' {x:aI}:k<(μ++[x]).length:=bh hk
 af hk' (aO hk' hl h (ai (fun e=>Nat.not_lt.mpr hq.1 (Int.ofNat_lt.mp e)) (af hk' (aO hk' hl h (ai (fun e=>Nat.not_lt.mpr hq.2.1 (Int.ofNat_lt.mp e)) (af hk' (aO hk' hl h ⟨(lL c).1,(lL c).2,aZ (JZ hq.2.2)
  (bD hk (af hk' (aO hk' hl h (bD hk (LL hz (N9 hk (af hk' (af hk' (yS (p+1) q)))))))))⟩)))))))
theorem jT{Q:KS}(hk:k<μ.length)(hl:d.length<=lim):∀(l acc:List UInt8) {p:Nat},Pl d p (jw l++34::s)->(∀c∈l,dC c)->acc.length+l.length<=lim->
  Q .next ⟨[some (.loc k),some (.loc μ.length)],[]⟩ (sw (μ++[.eX (acc++l)]) k d (p+(jw l).length))->
  vg (n+1) (cZ.at 2) ⟨[some (.loc k),some (.loc μ.length)],[]⟩ (sw (μ++[.eX acc]) k d p) Q
 |[],acc,p,h,hq,hz,q=>aD (af (bh hk) (aO (bh hk) hl h (List.append_nil acc▸q)))
 |c::l,acc,p,h,hq,hz,q=>by
  have hk' {x:aI}:k<(μ++[x]).length:=bh hk
  have hc:=hq c (.head _)
  have hz2:acc.length<lim:=Nat.lt_of_lt_of_le (Nat.lt_add_of_pos_right (Nat.zero_lt_succ _)) hz
  have hz3:(acc++[c]).length+l.length<=lim:=by rw[TM,Nat.add_assoc,Nat.add_comm [c].length];exact hz
  rw[List.append_cons acc] at q
  refine aD ?_
  by_cases he:c=34\/c=92
  ·rw[G7 he] at h q
   have q:=Nat.add_right_comm p (jw l).length 2▸q
   refine af hk' (aO hk' hl h (af hk' (aO hk' hl h (af hk' (af hk' (yS (p+1) ?_))))))
   have go:=tQ (n:=n) (Q:=QG (n+1) (cZ.at 2).wt (cZ.at 2).wb Q) (s:=jw l++34::s) hk hl h.one hc hz2 (jT hk hl l (acc++[c]) h.one.one (fun x hx=>hq x (.tail _ hx)) hz3 q)
   rcases he with rfl|rfl
   ·exact af hk' (aO hk' hl h.one go)
   ·exact af hk' (aO hk' hl h.one (af hk' (aO hk' hl h.one go)))
  ·rw[DD he] at h q
   have q:=Nat.add_right_comm p (jw l).length 1▸q
   have f1:=jC (x:=34) fun e=>he (.inl e)
   have f2:=jC (x:=92) fun e=>he (.inr e)
   exact af hk' (aO hk' hl h (ak f1 (af hk' (aO hk' hl h (ai f2 (tQ hk hl h hc hz2 (jT hk hl l (acc++[c]) h.one (fun x hx=>hq x (.tail _ hx)) hz3 q)))))))
theorem vi:∀l:List UInt8,l.length<=(jw l).length
 |[]=>TG _
 |a::l=>by
  by_cases h:a=34\/a=92
  ·rw[G7 h];exact Nat.succ_le_succ (Nat.le_succ_of_le (vi l))
  ·rw[DD h];exact Nat.succ_le_succ (vi l)
theorem xC(hk:k<μ.length)(hl:d.length<=lim){l:List UInt8}(h:Pl d p (34::(jw l++34::s)))(hq:∀c∈l,dC c)(q:Q (.bytes l) (sw μ k d (p+((jw l).length+2)))):ae (n+3) 34 [.loc k] (sw μ k d p) Q:=by
 have h2:l.length<=lim:=Ta (vi l) (Ta h.one.zK hl)
 have hk' {x:aI}:k<(μ++[x]).length:=bh hk
 have e:p+((jw l).length+2)=p+1+(jw l).length+1:=by omega
 rw[e] at q
 exact Ax (af hk (iw (t:=[34]) hk hl h (yU hk (jT hk hl l [] h.one hq (Nat.zero_add _▸h2) (af hk' (af hk' (yS (p+1+(jw l).length+1) (bD hk ⟨h2,gn hk q⟩))))))))
end
section
inductive gW(l:List UInt8):List UInt8->Prop
 |quoted:(∀c∈l,dC c)->gW l (34::(jw l++[34]))
 |lit (g):dJ g->g≠[]->g.length<=10->numOf g=l.length->gW l (123::(g++(125::13::10::l)))
 |litp (g):dJ g->g≠[]->g.length<=10->numOf g=l.length->gW l (123::(g++(43::125::13::10::l)))
theorem Pl.cast{d s t t':List UInt8}{p:Nat}(e:t=t')(h:Pl d p (t++s)):Pl d p (t'++s):=e▸h
theorem Tok.Rw{s:List UInt8}{x:UInt8}(hx:cH x.toNat=false):∀c,(x::s).head?=some c->cH c.toNat=false:=fun c e=>Option.some.inj e▸hx
section
variable{n:Nat}{μ:Mu}{Q:KV}{k:Nat}{d s t:List UInt8}{p:Nat}{c:UInt8}
theorem xS{g l:List UInt8}{p0:Nat}(hk:k<μ.length)(hl:d.length<=lim)(h:Pl d p (125::13::10::(l++s)))(hg:dJ g)(h9:g.length<=10)(hv:numOf g=l.length)(q:Q (.bytes l) (sw μ k d (p+3+l.length))):
  aA (n+2) (ec.body.drop 4) ⟨[some (.loc k),some (.bytes g),none,none],[]⟩ (sw μ k d p) (aR (sw μ k d p0) Q):=by
 have h3:Pl d (p+3) (l++s):=h.step (t:=[125,13,10])
 refine af hk ⟨TF rfl,iw (t:=[125,13,10]) hk hl h (af hk (ck (Ta h9 (TF rfl)) hg ?_))⟩
 rw[hv]
 refine af hk ⟨hl,ai (fun e=>Nat.not_lt.mpr h3.step.le (Int.ofNat_lt.mp e)) (af hk (af hk ⟨hl,?_⟩))⟩
 show aA _ _ ⟨[_,_,_,some (.bytes (cut d (some ((p+3:Nat):Int)) (some ((p+3+l.length:Nat):Int))))],_⟩ _ _
 rw[h3.cut]
 exact af hk (yS (p+3+l.length) ⟨Ta h3.zK hl,au hk q⟩)
theorem xX{g:List UInt8}(hk:k<μ.length)(hl:d.length<=lim){x:UInt8}(h:Pl d p (123::(g++x::s)))(hg:dJ g)(h0:g≠[])(h9:g.length<=10)(hx:cH x.toNat=false)
  (q:ae (n+2) 24 [.loc k,.bytes [43]] (sw μ k d (p+1+g.length)) (Sm ⟨[some (.loc k),some (.bytes g),none,none],[]⟩ (Az (aA (n+2) (ec.body.drop 4)) (aR (sw μ k d p) Q)))):ae (n+3) 35 [.loc k] (sw μ k d p) Q:=
 have h2:=Ta h.one.zK hl
 xY (af hk (iw (t:=[123]) hk hl h (af hk (lW zm hk hl h.one hg (Tok.Rw hx) ⟨h2,ai (len0 h0) ⟨h2,ai (fun e=>Nat.not_lt.mpr h9 (Int.ofNat_lt.mp e)) (af hk q)⟩⟩))))
theorem zY(hk:k<μ.length)(hl:d.length<=lim){g l:List UInt8}(h:Pl d p (123::(g++(125::13::10::(l++s)))))(hg:dJ g)(h0:g≠[])(h9:g.length<=10)(hv:numOf g=l.length)(q:Q (.bytes l) (sw μ k d (p+(g.length+l.length+4)))):ae (n+3) 35 [.loc k] (sw μ k d p) Q:=by
 rw[show p+(g.length+l.length+4)=p+1+g.length+3+l.length by omega] at q
 exact xX hk hl h hg h0 h9 rfl (bp hk hl h.one.step (TF rfl) nofun (xS hk hl h.one.step hg h9 hv q))
theorem Ad(hk:k<μ.length)(hl:d.length<=lim){g l:List UInt8}(h:Pl d p (123::(g++(43::125::13::10::(l++s)))))(hg:dJ g)(h0:g≠[])(h9:g.length<=10)(hv:numOf g=l.length)(q:Q (.bytes l) (sw μ k d (p+(g.length+l.length+5)))):ae (n+3) 35 [.loc k] (sw μ k d p) Q:=by
 rw[show p+(g.length+l.length+5)=p+1+g.length+1+3+l.length by omega] at q
 exact xX hk hl h hg h0 h9 rfl (aU (t:=[43]) hk hl h.one.step (xS hk hl h.one.step.one hg h9 hv q))
theorem kI(hk:k<μ.length)(hl:d.length<=lim){l:List UInt8}(h:Pl d p (t++s))(ht:gW l t)(q:Q (.bytes l) (sw μ k d (p+t.length))):ae (n+4) 36 [.loc k] (sw μ k d p) Q:=by
 refine z_ (af hk ?_)
 cases ht with
 |quoted hq=>
  have h:Pl d p (34::(jw l++34::s)):=TP (jw l) [34] s▸h
  rw[List.length_cons,TM] at q
  exact aO hk hl h (af hk (xC hk hl h hq (au hk q)))
 |lit g h1 h2 h3 h4=>
  have h:Pl d p (123::(g++(125::13::10::(l++s)))):=TP g (125::13::10::l) s▸h
  rw[List.length_cons,TM] at q
  exact aO hk hl h (af hk (zY hk hl h h1 h2 h3 h4 (au hk q)))
 |litp g h1 h2 h3 h4=>
  have h:Pl d p (123::(g++(43::125::13::10::(l++s)))):=TP g (43::125::13::10::l) s▸h
  rw[List.length_cons,TM] at q
  exact aO hk hl h (af hk (Ad hk hl h h1 h2 h3 h4 (au hk q)))
theorem gW.head{l:List UInt8}(h:gW l t):∃c r,t=c::r/\(c=34\/c=123):=by cases h with
 |quoted=>exact⟨_,_,rfl,.inl rfl⟩
 |_=>exact⟨_,_,rfl,.inr rfl⟩
theorem wm{f:V}(hk:k<μ.length)(hl:d.length<=lim){l:List UInt8}(h:Pl d p (t++s))(ht:gW l t)(q:Q (.bytes l) (sw μ k d (p+t.length))):ae (n+5) 37 [.loc k,f] (sw μ k d p) Q:=by
 obtain⟨c,r,e,hc⟩:=ht.head
 have hp:Pl d p (c::(r++s)):=h.cast e
 rcases hc with rfl|rfl
 ·exact hD (af hk (aO hk hl hp (af hk (kI hk hl h ht (au hk q)))))
 ·exact hD (af hk (aO hk hl hp (af hk (aO hk hl hp (af hk (kI hk hl h ht (au hk q)))))))
theorem vG{f:V}{b:UInt8->Bool}(hf:Fits (n+3) f b)(hk:k<μ.length)(hl:d.length<=lim)(h:Pl d p (t++s))(ht:Tok b t s)(h0:t≠[])(hb:b 34=false/\b 123=false)(q:Q (.bytes t) (sw μ k d (p+t.length))):ae (n+5) 37 [.loc k,f] (sw μ k d p) Q:=by
 have h2:=Ta h.zK hl
 obtain⟨c,r,e⟩:=List.exists_cons_of_ne_nil h0
 have hp:Pl d p (c::(r++s)):=h.cast e
 have hc:=ht.1 c (e▸.head _)
 have c1:=jC (c:=c) (x:=34) fun e=>by rw[e,hb.1] at hc;cases hc
 have c2:=jC (c:=c) (x:=123) fun e=>by rw[e,hb.2] at hc;cases hc
 exact hD (af hk (aO hk hl hp (ai c1 (af hk (aO hk hl hp (ai c2 (af hk (lW hf hk hl h ht.1 ht.2 ⟨h2,ai (len0 h0) ⟨h2,au hk q⟩⟩))))))))
theorem AO(hk:k<μ.length)(hl:d.length<=lim){l:List UInt8}(h:Pl d p (t++s))(ht:gW l t)(q:Q (.bytes l) (sw μ k d (p+t.length))):ae (n+6) 38 [.loc k] (sw μ k d p) Q:=
 oJ (af hk (wm hk hl h ht (au hk q)))
theorem Aj(hk:k<μ.length)(hl:d.length<=lim)(h:Pl d p (t++s))(ht:Tok (fun c=>ez c.toNat) t s)(h0:t≠[])(q:Q (.bytes t) (sw μ k d (p+t.length))):ae (n+6) 38 [.loc k] (sw μ k d p) Q:=
 oJ (af hk (vG Et hk hl h ht h0 ⟨rfl,rfl⟩ (au hk q)))
end
end
section
variable{n:Nat}{μ:Mu}{Q:KV}{k:Nat}{d s t:List UInt8}{p:Nat}{c:UInt8}
noncomputable def G6(n:Nat)(read:V)(d:List UInt8)(k:Nat)(μ:Mu)(x:D)(t:List UInt8):Prop:=t≠[]/\t.head?≠some 41/\∀(acc:List D) (p:Nat) (s:List UInt8) (Q:KV),(s.head?=some 32\/s.head?=some 41)->Pl d p (t++s)->
 Q (.d x) (sw (μ++[.list acc]) k d (p+t.length))->BO n read [] (sw (μ++[.list acc]) k d p) Q
noncomputable def aN(its:List (D×List UInt8)):List UInt8:=its.flatMap fun x=>32::x.2
theorem tail_cons(x:D×List UInt8)(r:List (D×List UInt8)):aN (x::r)=32::(x.2++aN r):=rfl
theorem om(its:List (D×List UInt8))(s:List UInt8):(aN its++41::s).head?=some 32\/(aN its++41::s).head?=some 41:=by
 cases its with
 |nil=>exact .inr rfl
 |cons a r=>exact .inl rfl
theorem oG{acc:List D}{x:D}(hk:k<μ.length)(hz:acc.length<lim)(q:Q .none (sw (μ++[.list (acc++[x])]) k d p)):iy (sw (μ++[.list acc]) k d p) μ.length (mL fun l=>l.length<lim/\lX μ.length (.list (l++[x])) (sw (μ++[.list acc]) k d p) (Q .none)):=bD hk ⟨hz,N9 hk q⟩
theorem tL{read:V}{Q:KS}(hk:k<μ.length)(hl:d.length<=lim):∀(its:List (D×List UInt8)) (acc:List D) {p:Nat},(∀x∈its,G6 (n+3) read d k μ x.1 x.2)->Pl d p (aN its++41::s)->acc.length+its.length<=lim->
  Q .next ⟨[some (.loc k),some read,some (.loc μ.length)],[]⟩ (sw (μ++[.list (acc++its.map (·.1))]) k d (p+(aN its).length+1))->
  vg (n+3) (fS.at 4) ⟨[some (.loc k),some read,some (.loc μ.length)],[]⟩ (sw (μ++[.list acc]) k d p) Q
 |[],acc,p,hi,h,hz,q=>aD (af (bh hk) (aU (t:=[41]) (bh hk) hl h (List.append_nil acc▸q)))
 |(x,t)::its,acc,p,hi,h,hz,q=>by
  have hk' {x:aI}:k<(μ++[x]).length:=bh hk
  have h:Pl d p (32::(t++(aN its++41::s))):=TP t (aN its) (41::s)▸h
  have hz2:acc.length<lim:=Nat.lt_of_lt_of_le (Nat.lt_add_of_pos_right (Nat.zero_lt_succ _)) hz
  have hz3:(acc++[x]).length+its.length<=lim:=by rw[TM,Nat.add_assoc,Nat.add_comm [x].length];exact hz
  have hx:=hi (x,t) (.head _)
  rw[List.map_cons,List.append_cons acc,tail_cons,List.length_cons,TM,show p+(t.length+(aN its).length+1)+1=p+1+t.length+(aN its).length+1 by omega] at q
  exact aD (af hk' (bp (t:=[41]) hk' hl h (TF rfl) nofun (af hk' (cD hk' hl h (bD hk (hx.2.2 acc _ _ _ (om its s) h.one (oG hk hz2
   (tL hk hl its (acc++[x]) (fun y hy=>hi y (.tail _ hy)) h.one.step hz3 q))))))))
noncomputable def aF(its:List (D×List UInt8)):List UInt8:=match its with
 |[]=>[40,41]
 |x::r=>40::(x.2++(aN r++[41]))
theorem oy{read:V}{its:List (D×List UInt8)}(hk:k<μ.length)(hl:d.length<=lim)(hi:∀x∈its,G6 (n+3) read d k μ x.1 x.2)(h:Pl d p (aF its++s))(hz:its.length<=lim)(q:Q (.d (.list (its.map (·.1)))) (sw μ k d (p+(aF its).length))):ae (n+4) 39 [.loc k,read] (sw μ k d p) Q:=by
 have hk' {x:aI}:k<(μ++[x]).length:=bh hk
 cases its with
 |nil=>
  have h:Pl d p (40::41::s):=h
  exact oL (af hk (iw (t:=[40]) hk hl h ⟨Nat.zero_le _,yU hk (af hk' (aU (t:=[41]) hk' hl h.one ⟨by rw[da];exact TG _,bD hk (gn hk q)⟩))⟩))
 |cons x r=>
  have hx:=hi x (.head _)
  have h:Pl d p (40::(x.2++(aN r++41::s))):=by rw[aF,List.cons_append,TP,TP] at h;exact h
  have e1:List.take 1 (x.2++(aN r++41::s))≠[41]:=by
   obtain⟨c,t',e⟩:=List.exists_cons_of_ne_nil hx.1
   have h2:=hx.2.1
   rw[e] at h2⊢
   exact fun e=>h2 (congrArg some (List.cons.inj e).1)
  rw[aF,List.length_cons,TM,TM,show p+(x.2.length+((aN r).length+([41]:List UInt8).length)+1)=p+1+x.2.length+(aN r).length+1 by simp only[List.length_cons,List.length_nil];omega] at q
  exact oL (af hk (iw (t:=[40]) hk hl h ⟨Nat.zero_le _,yU hk (af hk' (bp (t:=[41]) hk' hl h.one (TF rfl) e1 (bD hk (hx.2.2 [] _ _ _ (om r s) h.one (oG hk (TF rfl)
   (tL hk hl r [x.1] (fun y hy=>hi y (.tail _ hy)) h.one.step (Nat.add_comm .. ▸hz) ⟨by rw[da];exact TG _,bD hk (gn hk q)⟩))))))⟩))
end
section
noncomputable abbrev pI:List UInt8:=[110,105,108]
noncomputable abbrev j4(t:List UInt8):Prop:=∀c∈t,dU c.toNat=true
noncomputable abbrev zR(t:List UInt8):Bool:=(t.map fun c=>cH c.toNat).all id
inductive OZ(t:List UInt8):D->Prop
 |nil:t.map eH=pI->OZ t .none
 |num:t.map eH≠pI->dJ t->t.length<=19->OZ t (.int (numOf t:Nat))
 |atom:t.map eH≠pI->zR t=false->OZ t (.atom (codes t))
inductive cY:Nat->D->List UInt8->Prop
 |plain (r t x):OZ t x->j4 t->t≠[]->cY r x t
 |str (r l t):gW l t->cY r (.bytes l) t
 |lst (r) (its:List (D×List UInt8)):(∀x,x∈its->cY r x.1 x.2)->its.length<=lim->cY (r+1) (.list (its.map (·.1))) (aF its)
noncomputable def lQ(s:List UInt8):Prop:=s.head?=some 32\/s.head?=some 41\/s.head?=some 93
theorem tG{s:List UInt8}(h:lQ s):∀c,s.head?=some c->dU c.toNat=false:=by
 intro c hc
 rcases h with h|h|h<;>(rw[h] at hc;cases hc;rfl)
theorem HV{c:UInt8}(h:dU c.toNat=true):33<=c.toNat/\c.toNat<=126:=by
 have h:=Bool.and_eq_true_iff.mp (Bool.and_eq_true_iff.mp h).1
 exact⟨Int.ofNat_le.mp (of_decide_eq_true h.1),Int.ofNat_le.mp (of_decide_eq_true h.2)⟩
theorem Gu{c:UInt8}(h:dU c.toNat=true):c.toNat<128:=Nat.lt_of_le_of_lt (HV h).2 (TF rfl)
theorem Bm{c x:UInt8}(h:dU c.toNat=true)(hx:dU x.toNat=false):¬(c.toNat:Int)=(x.toNat:Int):=fun e=>by rw[e,hx] at h;cases h
theorem Ki{c:UInt8}(h:cH c.toNat=true):dU c.toNat=true:=by
 have h:=si h
 have e:(c.toNat:Int)≠40/\(c.toNat:Int)≠41/\(c.toNat:Int)≠123/\(c.toNat:Int)≠34/\(c.toNat:Int)≠93:=by omega
 simp[dU,gO]
 refine⟨by omega,?_⟩
 omega
theorem Jq{t:List UInt8}(h:dJ t):zR t=true:=List.all_eq_true.mpr fun x hx=>let⟨c,hc,e⟩:=List.mem_map.mp hx;e▸h c hc
section
variable{n:Nat}{μ:Mu}{Q:KV}{k:Nat}{d s t:List UInt8}{p:Nat}{c:UInt8}
theorem tx(hk:k<μ.length)(hl:d.length<=lim)(h:Pl d p (t++s))(hs:lQ s)(ht:j4 t)(h0:t≠[]){x:D}(hx:OZ t x)(q:Q (.d x) (sw μ k d (p+t.length))):ae (n+4) 40 [.loc k] (sw μ k d p) Q:=by
 have h2:=Ta h.zK hl
 refine pX (af hk (af hk (lW yy hk hl h ht (tG hs) ⟨h2,ai (len0 h0) (wB h2 ?_)⟩)))
 have all:∀{K:KV},K (.bool (zR t)) (sw μ k d (p+t.length))->eE (n+3) (.call (.const (.bi .all)) [(.comp false (.call (.const (.fn 20)) [(.lv 1)]) (.lv 1) (.ex (.lv 2)) [] 2 0 [])]) ⟨[some (.loc k),some (.int p),some (.bytes t)],[]⟩ (sw μ k d (p+t.length)) K:=fun hK=>
  id_map h2 (aQ (fun c:UInt8=>D.bool (cH c.toNat)) rfl h2 (fun c hc K hK=>cu hK) (dA (fY (fun c:UInt8=>cH c.toNat) t) ⟨by rw[TN];exact h2,hK⟩))
 cases hx with
 |nil e=>exact ak e (au hk q)
 |num e e2 e3=>exact ai e (all (aW (Jq e2) ⟨h2,ai (fun e=>Nat.not_lt.mpr e3 (Int.ofNat_lt.mp e)) (ck (Ta e3 (TF rfl)) e2 (au hk q))⟩))
 |atom e e2=>exact ai e (all (aZ e2 (mT h2 (fun c hc=>Gu (ht c hc)) ⟨Nat.le_add_left ..,au hk q⟩)))
theorem cY.first{r:Nat}{x:D}(h:cY r x t):∃c t',t=c::t'/\c≠32/\c≠41:=by
 cases h with
 |plain _ _ _ _ a b=>
  obtain⟨c,t',rfl⟩:=List.exists_cons_of_ne_nil b
  have:=a c (.head _)
  exact⟨c,t',rfl,fun e=>(by rw[e] at this;cases this),fun e=>(by rw[e] at this;cases this)⟩
 |str _ l _ a=>exact let⟨c,t',e,hc⟩:=a.head;⟨c,t',e,by rcases hc with rfl|rfl<;>exact nofun,by rcases hc with rfl|rfl<;>exact nofun⟩
 |lst r its a b=>cases its with
  |nil=>exact⟨_,_,rfl,nofun,nofun⟩
  |cons y ys=>exact⟨_,_,rfl,nofun,nofun⟩
noncomputable def LY(d:List UInt8)(k r:Nat)(x:D)(t:List UInt8):Prop:=∀{n:Nat} {μ:Mu} {Q:KV} {p:Nat} {s:List UInt8} {dep:Nat},dep+r<=29->k<μ.length->lQ s->Pl d p (t++s)->
 Q (.d x) (sw μ k d (p+t.length))->aA (n+r+6) eZ.body ⟨[some (.loc k),some (.int (dep:Int)),none],[]⟩ (sw μ k d p) (aR (sw μ k d p) Q)
theorem qG(its:List (D×List UInt8))(s:List UInt8):lQ (aN its++41::s):=(om its s).imp id .inl
theorem q5{Q:KS}{dep r:Nat}(hd:dep+1+r<=29)(hk:k<μ.length)(hl:d.length<=lim):∀(its:List (D×List UInt8)) (acc:List D) {p:Nat},acc≠[]->(∀x∈its,LY d k r x.1 x.2)->Pl d p (aN its++41::s)->acc.length+its.length<=lim->
  Q .next ⟨[some (.loc k),some (.int (dep:Int)),some (.loc μ.length)],[]⟩ (sw (μ++[.list (acc++its.map (·.1))]) k d (p+(aN its).length+1))->
  vg (n+r+7) (eZ.at 5) ⟨[some (.loc k),some (.int (dep:Int)),some (.loc μ.length)],[]⟩ (sw (μ++[.list acc]) k d p) Q
 |[],acc,p,ha,hi,h,hz,q=>aD (af (bh hk) (aU (t:=[41]) (bh hk) hl h (List.append_nil acc▸q)))
 |(x,t)::its,acc,p,ha,hi,h,hz,q=>by
  have hk' {x:aI}:k<(μ++[x]).length:=bh hk
  have h:Pl d p (32::(t++(aN its++41::s))):=TP t (aN its) (41::s)▸h
  have hz2:acc.length<lim:=Nat.lt_of_lt_of_le (Nat.lt_add_of_pos_right (Nat.zero_lt_succ _)) hz
  have hz3:(acc++[x]).length+its.length<=lim:=by rw[TM,Nat.add_assoc,Nat.add_comm [x].length];exact hz
  rw[List.map_cons,List.append_cons acc,tail_cons,List.length_cons,TM,show p+(t.length+(aN its).length+1)+1=p+1+t.length+(aN its).length+1 by omega] at q
  exact aD (af hk' (bp (t:=[41]) hk' hl h (TF rfl) nofun (bD hk ⟨Nat.le_of_lt hz2,ak (il (List.length_pos_iff.mpr ha)) (af hk' (cD hk' hl h (bD hk (af hk' (uw (hi (x,t) (.head _) (dep:=dep+1) hd hk' (qG its s) h.one (oG hk hz2
   (q5 hd hk hl its (acc++[x]) (by cases acc<;>exact nofun) (fun y hy=>hi y (.tail _ hy)) h.one.step hz3 q))))))))⟩)))
end
section
variable{n:Nat}{μ:Mu}{Q:KV}{k:Nat}{d s t:List UInt8}{p:Nat}{c:UInt8}
theorem CR(hl:d.length<=lim){r:Nat}{x:D}(H:cY r x t):LY d k r x t:=by
 induction H with
 |plain r t x hx a b=>
  intro n μ Q p s dep hd hk hs h q
  obtain⟨c,t',e⟩:=List.exists_cons_of_ne_nil b
  have hp:Pl d p (c::(t'++s)):=h.cast e
  have hc:=a c (e▸.head _)
  exact af hk (aO hk hl hp (ai (Bm (x:=34) hc rfl) (af hk (aO hk hl hp (ai (Bm (x:=123) hc rfl) (af hk (aO hk hl hp (ak (Bm (x:=40) hc rfl) (af hk (tx (n:=n+r+2) hk hl h hs a b hx (au hk q)))))))))))
 |str r l t a=>
  intro n μ Q p s dep hd hk hs h q
  obtain⟨c,t',e,hc⟩:=a.head
  have hp:Pl d p (c::(t'++s)):=h.cast e
  rcases hc with rfl|rfl
  ·exact af hk (aO hk hl hp (af hk (kI (n:=n+r+2) hk hl h a (au hk q))))
  ·exact af hk (aO hk hl hp (af hk (aO hk hl hp (af hk (kI (n:=n+r+2) hk hl h a (au hk q))))))
 |lst r its a b ih=>
  intro n μ Q p s dep hd hk hs h q
  have hk' {x:aI}:k<(μ++[x]).length:=bh hk
  have hdep:¬(dep:Int)=30:=by omega
  have hd2:dep+1+r<=29:=by omega
  obtain⟨t',et⟩:∃t',aF its=40::t':=by cases its<;>exact⟨_,rfl⟩
  have hp:Pl d p (40::(t'++s)):=h.cast et
  refine af hk (aO hk hl hp (af hk (aO hk hl hp (af hk (aO hk hl hp (ai hdep (af hk (aU (t:=[40]) hk hl hp ⟨Nat.zero_le _,yU hk ?_⟩))))))))
  cases its with
  |nil=>
   cases et
   exact aD (af hk' (aU (t:=[41]) hk' hl hp.one ⟨by rw[da];exact TG _,bD hk (gn hk q)⟩))
  |cons y ys=>
   have h:Pl d (p+1) (y.2++(aN ys++41::s)):=by
    rw[aF,List.cons_append,TP,TP] at h
    exact h.one
   obtain⟨c,t2,e2,e3,e4⟩:=(a y (.head _)).first
   have e5:List.take 1 (y.2++(aN ys++41::s))≠[41]:=by
    rw[e2];exact fun e=>e4 (List.cons.inj e).1
   rw[aF,List.length_cons,TM,TM,show p+(y.2.length+((aN ys).length+([41]:List UInt8).length)+1)=p+1+y.2.length+(aN ys).length+1 by simp only[List.length_cons,List.length_nil];omega] at q
   refine aD (af hk' (bp (t:=[41]) hk' hl h (TF rfl) e5 (bD hk ⟨Nat.zero_le _,bD hk (af hk' (uw (ih y (.head _) (n:=n) (dep:=dep+1) hd2 hk' (qG ys s) h (oG hk (TF rfl) ?_))))⟩)))
   exact q5 hd2 hk hl ys [y.1] nofun (fun z hz=>ih z (.tail _ hz)) h.step (Nat.add_comm .. ▸b) ⟨by rw[da];exact TG _,bD hk (gn hk q)⟩
end
end
section
variable{n:Nat}{μ:Mu}{Q:KV}{k:Nat}{d s t:List UInt8}{p:Nat}{c:UInt8}
theorem mj{x:aI}{Q:aI->Prop}(q:Q x):iy (μ++[x]) μ.length Q:=⟨x,by rw[List.getElem?_append_right (TG _),Nat.sub_self];rfl,q⟩
noncomputable def gy(c:UInt8):Prop:=isPlain c.toNat=true/\c≠38
theorem uz{l:List UInt8}{Q:KS}(hl:l.length<=lim):∀(r:List UInt8) {p:Nat} (acc:List D) (v4:Option V),Pl l p r->(∀c∈r,gy c)->acc.length+r.length<=lim->
  (∀p' v4',Q .next ⟨[some (.bytes l),some (.loc μ.length),some (.int (p':Int)),some (.int (-1)),v4',none],[]⟩ (μ++[.list (acc++r.map fun c=>D.str [c.toNat])]))->
  vg (n+1) (fU.at 3) ⟨[some (.bytes l),some (.loc μ.length),some (.int (p:Int)),some (.int (-1)),v4,none],[]⟩ (μ++[.list acc]) Q
 |[],p,acc,v4,h,hp,hz,q=>aD ⟨hl,ai h.end (List.append_nil acc▸q p v4)⟩
 |c::r,p,acc,v4,h,hp,hz,q=>by
  have hc:=hp c (.head _)
  have hz2:acc.length<lim:=Nat.lt_of_lt_of_le (Nat.lt_add_of_pos_right (Nat.zero_lt_succ _)) hz
  have hz3:(acc++[D.str [c.toNat]]).length+r.length<=lim:=by rw[TM,Nat.add_assoc,Nat.add_comm [D.str [c.toNat]].length];exact hz
  have go:=uz hl r (acc++[D.str [c.toNat]]) (some (oc c)) h.one (fun x hx=>hp x (.tail _ hx)) hz3 (Q:=Q) (fun p' v4'=>by rw[TP];exact q p' v4')
  exact aD ⟨hl,ak h.Np ⟨Int.natCast_nonneg _,sU h hl (jD (aW hc.1 (ak (jC (x:=38) hc.2) (mj (oF (Nat.lt_trans (u8 c) (TF rfl)) (mj ⟨hz2,wD go⟩))))))⟩⟩
theorem oM{l:List UInt8}(hl:l.length<=lim)(hp:∀c∈l,gy c)(q:Q (.str (codes l)) μ):ae (n+2) 2 [.bytes l] μ Q:=
 yk ⟨Nat.zero_le _,qZ (uz hl l [] none ⟨[],rfl,rfl⟩ hp (Nat.zero_add _▸hl) (fun p2 v42=>mj (j8 hl (iY q))))⟩
end
section
variable{n:Nat}{μ:Mu}{Q:KV}{k:Nat}{d s t:List UInt8}{p:Nat}{c:UInt8}
theorem E5{j:Nat}{x:aI}{Q:aI->Prop}(hj:j≠k)(hc:μ[j]? =some x)(q:Q x):iy (sw μ k d p) j Q:=⟨x,(lE hj).trans hc,q⟩
theorem yB(hk:k<μ.length)(hl:d.length<=lim){l:List UInt8}(h:Pl d p (t++s))(ht:gW l t)(hp:∀c∈l,gy c)(hz:l.length<=lim)(q:Q (.str (codes l)) (sw μ k d (p+t.length))):ae (n+7) 67 [.loc k] (sw μ k d p) Q:=
 rF (af hk (AO hk hl h ht (oM hz hp (au hk q))))
theorem zr(hk:k<μ.length)(hl:d.length<=lim)(h:Pl d p (t++s))(ht:Tok (fun c=>ez c.toNat) t s)(h0:t≠[])(hp:∀c∈t,gy c)(q:Q (.str (codes t)) (sw μ k d (p+t.length))):ae (n+7) 67 [.loc k] (sw μ k d p) Q:=
 rF (af hk (Aj hk hl h ht h0 (oM (Ta h.zK hl) hp (au hk q))))
theorem FH{j:Nat}(hk:k<μ.length)(hj:j≠k)(hc:μ[j]? =some (.cell (some (.loc k))))(hl:d.length<=lim)(h:Pl d p (t++s))(ht:Tok (fun c=>dU c.toNat) t s)(h0:t≠[])(h7:∀c∈t,c.toNat<128)(q:Q (.str (codes t)) (sw μ k d (p+t.length))):
  Ow (n+5) (.lam 0 [j]) [] (sw μ k d p) Q:=
 AY rfl (E5 hj hc (af hk (iz yy hk hl h ht h0 h7 (au hk q))))
noncomputable def a_(l:List (List UInt8)):List (D×List UInt8):=l.map fun t=>(D.str (codes t),t)
theorem wg(hk:k<μ.length)(hl:d.length<=lim){l:List (List UInt8)}(hi:∀t∈l,t≠[]/\j4 t)(h:Pl d p (aF (a_ l)++s))(hz:l.length<=lim)(q:Q (.d (.tuple (l.map fun t=>.str (codes t)))) (sw μ k d (p+(aF (a_ l)).length))):ae (n+7) 68 [.loc k] (sw μ k d p) Q:=by
 refine Ky ?_
 rw[da,mA hk]
 have hk':k<(μ++[aI.cell (some (V.loc k))]).length:=bh hk
 refine bD hk (af hk' (oy (n:=n+2) (its:=a_ l) hk' hl (fun x hx=>?_) h (by rw[a_,TN];exact hz) ?_))
 ·obtain⟨t,ht,rfl⟩:=List.mem_map.mp hx
  obtain⟨a,b⟩:=hi t ht
  refine⟨a,fun e=>?_,fun acc p s Q hs h q=>FH (bh hk') (Nat.ne_of_gt hk) ?_ hl h ⟨b,tG (hs.imp id .inl)⟩ a (fun c hc=>Gu (b c hc)) q⟩
  ·obtain⟨c,t',rfl⟩:=List.exists_cons_of_ne_nil a
   have:=b c (.head _)
   rw[Option.some.inj e] at this;cases this
  ·exact(List.getElem?_append_left (by rw[TM];exact Nat.lt_succ_self _)).trans fw
 ·rw[a_,List.map_map]
  exact⟨by rw[TN];exact hz,gn hk q⟩
end
section
variable{n:Nat}{μ:Mu}{Q:KV}{k:Nat}{d s t:List UInt8}{p:Nat}{c:UInt8}
theorem o5(hk:k<μ.length)(hl:d.length<=lim){l:List (List UInt8)}(hi:∀t∈l,t≠[]/\j4 t)(h:Pl d p (aF (a_ l)++s))(hz:l.length<=lim)(q:Q (.d (.list (l.map fun t=>.atom (codes t)))) (sw μ k d (p+(aF (a_ l)).length))):ae (n+8) 69 [.loc k,.bool true] (sw μ k d p) Q:=by
 obtain⟨t',et⟩:∃t',aF (a_ l)=40::t':=by cases l<;>exact⟨_,rfl⟩
 exact rx (af hk (aO hk hl (h.cast et) (wg hk hl hi h hz (id_map hz (aQ (fun t:List UInt8=>D.atom (codes t)) rfl hz (fun c hc K hK=>⟨Nat.le_add_left ..,hK⟩) (au hk q))))))
theorem oV{r:Nat}{x:D}(hr:r<=29)(hk:k<μ.length)(hl:d.length<=lim)(H:cY r x t)(hs:lQ s)(h:Pl d p (t++s))(q:Q (.d x) (sw μ k d (p+t.length))):ae (n+r+8) 69 [.loc k,.bool false] (sw μ k d p) Q:=
 rx (af hk (sf (CR hl H (n:=n) (dep:=0) (by rw[Nat.zero_add];exact hr) hk hs h (au hk q))))
theorem kH{s:List UInt8}{c:UInt8}(h:s.head?≠some c):s.take 1≠[c]:=by
 cases s with
 |nil=>exact nofun
 |cons a r=>exact fun e=>h (congrArg some (List.cons.inj e).1)
theorem B1{c:UInt8}(h:bc c.toNat=true):c.toNat<128:=
 Nat.lt_of_le_of_lt (Int.ofNat_le.mp (of_decide_eq_true (Bool.and_eq_true_iff.mp (Bool.and_eq_true_iff.mp h).1).2)) (TF rfl)
theorem PS{a b:Nat}(h:0<b):¬((a+b:Nat):Int)=(a:Int):=fun e=>Nat.lt_irrefl a (Nat.lt_of_lt_of_eq (Nat.lt_add_of_pos_right h) (Int.ofNat.inj e))
theorem zF{p0:Nat}{j:Nat}(hk:k<μ.length)(hl:d.length<=lim)(hj:0<j)(ht:cut d (some (p:Int)) (some ((p+j:Nat):Int))=t)(h2:t.length<=lim)(q:Q (.str (codes t)) (sw μ k d (p+j))):
  aA (n+1) (ek.body.drop 3) ⟨[some (.loc k),some (.int (p:Int))],[]⟩ (sw μ k d (p+j)) (aR (sw μ k d p0) Q):=by
 subst ht
 exact af hk (ai (PS hj) (af hk (af hk ⟨hl,id_map h2 (aQ (fun c:UInt8=>D.str [c.toNat]) rfl h2 (fun c hc K hK=>oF (Nat.lt_trans (u8 c) (TF rfl)) hK) (j8 h2 (au hk q)))⟩)))
theorem nA(hk:k<μ.length)(hl:d.length<=lim)(h:Pl d p (t++s))(ht:Tok (fun c=>bc c.toNat) t s)(h0:t≠[])(hs:s.head?≠some 91)(q:Q (.str (codes t)) (sw μ k d (p+t.length))):ae (n+4) 70 [.loc k] (sw μ k d p) Q:=
 oU (af hk (af hk (lW kN hk hl h ht.1 ht.2 (af hk (bp (t:=[91]) hk hl h.step (TF rfl) (kH hs) (zF hk hl (List.length_pos_iff.mpr h0) h.cut (Ta h.zK hl) q))))))
noncomputable abbrev uF:St:=((ek.at 2).wb).headD .stop
theorem mw{v1:Option V}{Q:KS}(hk:k<μ.length)(hl:d.length<=lim):∀(l:List UInt8) {p:Nat},Pl d p (l++s)->(∀c∈l,cU c.toNat=true/\c≠34/\c≠93)->vg (n+1) uF ⟨[some (.loc k),v1],[]⟩ (sw μ k d (p+l.length)) Q->vg (n+1) uF ⟨[some (.loc k),v1],[]⟩ (sw μ k d p) Q
 |[],p,h,hq,q=>q
 |c::l,p,h,hq,q=>
  have hc:=hq c (.head _)
  have q:vg (n+1) uF ⟨[some (.loc k),v1],[]⟩ (sw μ k d (p+1+l.length)) Q:=Nat.add_right_comm p 1 l.length▸q
  aD (af hk (aO hk hl h (ak (jC (x:=93) hc.2.2) (af hk (aO hk hl h (ai (jC (x:=34) hc.2.1) (af hk (aO hk hl h (jZ (aW hc.1 (af hk (af hk (yS (p+1) (mw hk hl l h.one (fun x hx=>hq x (.tail _ hx)) q))))))))))))))
theorem xA{v1:Option V}{Q:KS}(hk:k<μ.length)(hl:d.length<=lim){l:List UInt8}(h:Pl d p (34::(jw l++34::s)))(hq:∀c∈l,dC c)(q:vg (n+3) uF ⟨[some (.loc k),v1],[]⟩ (sw μ k d (p+((jw l).length+2))) Q):vg (n+3) uF ⟨[some (.loc k),v1],[]⟩ (sw μ k d p) Q:=
 aD (af hk (aO hk hl h (af hk (aO hk hl h (af hk (xC hk hl h hq q))))))
theorem Ig{v1:Option V}{Q:KS}(hk:k<μ.length)(hl:d.length<=lim)(h:Pl d p (93::s))(q:Q .next ⟨[some (.loc k),v1],[]⟩ (sw μ k d p)):vg (n+1) uF ⟨[some (.loc k),v1],[]⟩ (sw μ k d p) Q:=
 aD (af hk (aO hk hl h q))
noncomputable abbrev GZ:List UInt8:=[66,79,68,89]
noncomputable abbrev B3:List UInt8:=[72,69,65,68,69,82,46,70,73,69,76,68,83,32,40,65,32]
noncomputable abbrev BD:List UInt8:=GZ++91::(B3++34::([120,93,121]++34::(41::93::[60,48,62])))
theorem vv(hk:k<μ.length)(hl:d.length<=lim)(h:Pl d p (BD++s))(hs:∀c,s.head?=some c->bc c.toNat=false)(q:Q (.str (codes BD)) (sw μ k d (p+32))):ae (n+5) 70 [.loc k] (sw μ k d p) Q:=by
 have g0:Pl d p (GZ++(91::(B3++(34::(jw [120,93,121]++(34::([41]++(93::([60,48,62]++s))))))))):=h
 have g1:=g0.step
 have g2:=g1.one
 have g3:=g2.step
 have g4:Pl d (p+GZ.length+1+B3.length+((jw [120,93,121]).length+2)) ([41]++(93::([60,48,62]++s))):=g3.one.step.one
 have g5:=g4.step
 refine oU (af hk (af hk (lW kN hk hl g0 (by decide) (fun c e=>Option.some.inj e▸rfl) (af hk (aU (t:=[91]) hk hl g1 ?_)))))
 refine mw hk hl B3 g2 (by decide) (xA hk hl g3 (by unfold dC;decide) (mw hk hl [41] g4 (by decide) (Ig hk hl g5 (af hk (af hk (yS (p+29) (af hk (lW (t:=[60,48,62]) kN hk hl g5.one (by decide) hs ?_))))))))
 exact zF (j:=32) hk hl (Nat.zero_lt_succ _) h.cut (TF rfl) q
end
section
theorem cY.mono{r:Nat}{x:D}{t:List UInt8}(h:cY r x t):∀{r':Nat},r<=r'->cY r' x t:=by
 induction h with
 |plain r t x a b c=>exact fun _=>.plain _ _ _ a b c
 |str r l t a=>exact fun _=>.str _ _ _ a
 |lst r its a b ih=>exact fun{r'} h=>match r',h with|r'+1,h=>.lst r' its (fun x hx=>ih x hx (Nat.le_of_succ_le_succ h)) b
noncomputable abbrev wG:List UInt8:=[70,76,65,71,83]
inductive cB:D->List UInt8->Prop
 |flags (l:List (List UInt8)):(∀t∈l,t≠[]/\j4 t)->l.length<=lim->cB (.tuple [.str (codes wG),.list (l.map fun t=>.atom (codes t))]) (wG++32::aF (a_ l))
 |val (nm:List UInt8) (x v):((nm≠[]/\∀c∈nm,bc c.toNat=true)\/nm=BD)->codes nm≠codes wG->cY 5 x v->cB (.tuple [.str (codes nm),x]) (nm++32::v)
theorem eK{b:UInt8->Bool}{c:UInt8}{s:List UInt8}(h:b c=false):∀x,(c::s).head?=some x->b x=false:=fun x e=>Option.some.inj e▸h
section
variable{n:Nat}{μ:Mu}{Q:KV}{k:Nat}{d s t:List UInt8}{p:Nat}{c:UInt8}
theorem bG(a:List UInt8)(c:UInt8)(b s:List UInt8):a++c::b++s=a++c::(b++s):=TP a (c::b) s
theorem zO{r:Nat}{x:D}{b:Bool}(hb:b=false)(hr:r<=29)(hk:k<μ.length)(hl:d.length<=lim)(H:cY r x t)(hs:lQ s)(h:Pl d p (t++s))(q:Q (.d x) (sw μ k d (p+t.length))):ae (n+r+8) 69 [.loc k,.bool b] (sw μ k d p) Q:=hb▸oV hr hk hl H hs h q
theorem sg{x:D}(hk:k<μ.length)(hl:d.length<=lim)(H:cB x t)(hs:lQ s)(h:Pl d p (t++s))(q:Q (.d x) (sw μ k d (p+t.length))):ae (n+15) 71 [.loc k] (sw μ k d p) Q:=by
 cases H with
 |flags l a b=>
  rw[bG] at h
  rw[TM,<-Nat.add_assoc] at q
  exact jS (nA hk hl h ⟨by decide,eK rfl⟩ nofun nofun (af hk (cD hk hl h.step (o5 hk hl a h.step.one b ⟨TF rfl,au hk (Nat.add_right_comm .. ▸q)⟩))))
 |val nm x v hnm hf hv=>
  rw[bG] at h
  rw[TM,<-Nat.add_assoc] at q
  have step:∀K:KV,K (.str (codes nm)) (sw μ k d (p+nm.length))->ae (n+14) 70 [.loc k] (sw μ k d p) K:=by
   intro K hK
   rcases hnm with⟨h0,hc⟩|rfl
   ·exact nA hk hl h ⟨hc,eK rfl⟩ h0 nofun hK
   ·exact vv hk hl h (eK rfl) hK
  exact jS (step _ (af hk (cD hk hl h.step (zO (n:=n+1) (r:=5) (decide_eq_false hf) (TF rfl) hk hl hv hs h.step.one ⟨TF rfl,au hk (Nat.add_right_comm .. ▸q)⟩))))
noncomputable def ao(l:List (List UInt8)):List UInt8:=l.flatMap fun t=>32::t
theorem kj(t:List UInt8)(l:List (List UInt8)):ao (t::l)=32::(t++ao l):=rfl
theorem qW{Q:KS}(hk:k<μ.length)(hl:d.length<=lim)(hs:s.head?≠some 32/\∀c,s.head?=some c->bc c.toNat=false):∀(l:List (List UInt8)) (acc:List D) {p:Nat},(∀t∈l,t≠[]/\∀c∈t,bc c.toNat=true)->Pl d p (ao l++s)->acc.length+l.length<=lim->
  Q .next ⟨[some (.loc k),some (.loc μ.length)],[]⟩ (sw (μ++[.list (acc++l.map fun t=>.str (codes t))]) k d (p+(ao l).length))->
  vg (n+6) (fi.at 1) ⟨[some (.loc k),some (.loc μ.length)],[]⟩ (sw (μ++[.list acc]) k d p) Q
 |[],acc,p,hi,h,hz,q=>aD (af (bh hk) (bp (t:=[32]) (bh hk) hl h (TF rfl) (kH hs.1) (List.append_nil acc▸q)))
 |t::l,acc,p,hi,h,hz,q=>by
  have hk' {x:aI}:k<(μ++[x]).length:=bh hk
  have hz2:acc.length<lim:=Nat.lt_of_lt_of_le (Nat.lt_add_of_pos_right (Nat.zero_lt_succ _)) hz
  have hz3:(acc++[D.str (codes t)]).length+l.length<=lim:=by rw[TM,Nat.add_assoc,Nat.add_comm [D.str (codes t)].length];exact hz
  have h:Pl d p (32::(t++(ao l++s))):=TP t (ao l) s▸h
  have ht:=hi t (.head _)
  have hh:∀c,(ao l++s).head?=some c->bc c.toNat=false:=by
   cases l with
   |nil=>exact hs.2
   |cons t2 l2=>exact eK rfl
  rw[List.map_cons,List.append_cons acc,kj,List.length_cons,TM,show p+(t.length+(ao l).length+1)=p+1+t.length+(ao l).length by omega] at q
  exact aD (af hk' (aU (t:=[32]) hk' hl h (bD hk (g6 hk' hl h.one ⟨ht.2,hh⟩ ht.1 (fun c hc=>B1 (ht.2 c hc)) (oG hk hz2 (qW hk hl hs l (acc++[D.str (codes t)]) (fun y hy=>hi y (.tail _ hy)) h.one.step hz3 q))))))
theorem wL(hk:k<μ.length)(hl:d.length<=lim)(hs:s.head?≠some 32/\∀c,s.head?=some c->bc c.toNat=false){l:List (List UInt8)}(hi:∀t∈l,t≠[]/\∀c∈t,bc c.toNat=true)(h:Pl d p (ao l++s))(hz:l.length<=lim)(q:Q (.d (.tuple (l.map fun t=>.str (codes t)))) (sw μ k d (p+(ao l).length))):ae (n+7) 74 [.loc k] (sw μ k d p) Q:=
 vf ⟨Nat.zero_le _,yU hk (qW hk hl hs l [] hi h (Nat.zero_add _▸hz) (bD hk ⟨by rw[List.nil_append,TN];exact hz,gn hk q⟩))⟩
end
end
section
noncomputable def kO(s:List UInt8):Prop:=(∃c r,s=c::r/\c≠32/\cH c.toNat=false)\/∃c r,s=32::c::r/\cH c.toNat=false
theorem Di{s:List UInt8}(hs:kO s):∀c,s.head?=some c->cH c.toNat=false:=by
 rcases hs with⟨a,r,rfl,h1,h2⟩|⟨a,r,rfl,h2⟩
 ·exact eK h2
 ·exact eK rfl
section
variable{n:Nat}{μ:Mu}{Q:KV}{k:Nat}{d s t:List UInt8}{p:Nat}{c:UInt8}
theorem tI{Q:KS}(hk:k<μ.length)(hl:d.length<=lim)(hs:kO s):∀(l:List (List UInt8)) (acc:List D) {p:Nat},(∀t∈l,t≠[]/\t.length<=19/\dJ t)->Pl d p (ao l++s)->acc.length+l.length<=lim->
  Q .next ⟨[some (.loc k),some (.loc μ.length)],[]⟩ (sw (μ++[.list (acc++l.map fun t=>.int (numOf t:Nat))]) k d (p+(ao l).length))->
  vg (n+4) (dM.at 1) ⟨[some (.loc k),some (.loc μ.length)],[]⟩ (sw (μ++[.list acc]) k d p) Q
 |[],acc,p,hi,h,hz,q=>by
  have hk' {x:aI}:k<(μ++[x]).length:=bh hk
  have q:=List.append_nil acc▸q
  rcases hs with⟨a,r,rfl,h2,h3⟩|⟨a,r,rfl,h3⟩
  ·exact aD (af hk' (aO hk' hl h (ai (jC (x:=32) h2) q)))
  ·exact aD (af hk' (aO hk' hl h (af hk' (af hk' ⟨hl,ak (Pl.one h).Np (af hk' (af hk' ⟨Int.natCast_nonneg _,sU (p:=p+1) (Pl.one h) hl (cu (aZ h3 q))⟩))⟩))))
 |t::l,acc,p,hi,h,hz,q=>by
  have hk' {x:aI}:k<(μ++[x]).length:=bh hk
  have hz2:acc.length<lim:=Nat.lt_of_lt_of_le (Nat.lt_add_of_pos_right (Nat.zero_lt_succ _)) hz
  have hz3:(acc++[D.int (numOf t:Nat)]).length+l.length<=lim:=by rw[TM,Nat.add_assoc,Nat.add_comm [D.int (numOf t:Nat)].length];exact hz
  have h:Pl d p (32::(t++(ao l++s))):=TP t (ao l) s▸h
  have ht:=hi t (.head _)
  have hh:∀c,(ao l++s).head?=some c->cH c.toNat=false:=by
   cases l with
   |nil=>exact Di hs
   |cons t2 l2=>exact eK rfl
  rw[List.map_cons,List.append_cons acc,kj,List.length_cons,TM,show p+(t.length+(ao l).length+1)=p+1+t.length+(ao l).length by omega] at q
  obtain⟨c,t',e⟩:=List.exists_cons_of_ne_nil ht.1
  have h1:Pl d (p+1) (c::(t'++(ao l++s))):=h.one.cast e
  exact aD (af hk' (aO hk' hl h (af hk' (af hk' ⟨hl,ak h1.Np (af hk' (af hk' ⟨Int.natCast_nonneg _,sU (p:=p+1) h1 hl (cu (aW (ht.2.2 c (e▸.head _)) (af hk' (cD hk' hl h (bD hk (af hk' (nz hk' hl h.one ⟨ht.2.2,hh⟩ ht.1 ht.2.1 (oG hk hz2
   (tI hk hl hs l (acc++[D.int (numOf t:Nat)]) (fun y hy=>hi y (.tail _ hy)) h.one.step hz3 q)))))))))⟩))⟩))))
theorem gm(hk:k<μ.length)(hl:d.length<=lim)(hs:kO s){l:List (List UInt8)}(hi:∀t∈l,t≠[]/\t.length<=19/\dJ t)(h:Pl d p (ao l++s))(hz:l.length<=lim)(q:Q (.d (.tuple (l.map fun t=>.int (numOf t:Nat)))) (sw μ k d (p+(ao l).length))):ae (n+5) 72 [.loc k] (sw μ k d p) Q:=
 rA ⟨Nat.zero_le _,yU hk (tI hk hl hs l [] hi h (Nat.zero_add _▸hz) (bD hk ⟨by rw[List.nil_append,TN];exact hz,gn hk q⟩))⟩
theorem j6(hk:k<μ.length)(hl:d.length<=lim)(h:Pl d p (t++s))(ht:Tok (fun c=>cU c.toNat) t s)(h1:¬(cut (codes t) none (some 1))=[91])(h2:¬(cut (codes t) (some (-1)) none)=[125])(q:Q (.str (codes t)) (sw μ k d (p+t.length))):ae (n+3) 75 [.loc k] (sw μ k d p) Q:=by
 have h4:=Ta h.zK hl
 have h5:(codes t).length<=lim:=cP t▸h4
 exact zc (af hk (af hk (lW ua hk hl h ht.1 ht.2 (id_map h4 (aQ (fun c:UInt8=>D.str [c.toNat]) rfl h4 (fun c hc K hK=>oF (Nat.lt_trans (u8 c) (TF rfl)) hK) (j8 h4 ⟨h5,ai h1 ⟨h5,ai h2 (au hk q)⟩⟩))))))
theorem BA{c:UInt8}(h:cx c.toNat=true):c.toNat<128:=
 Nat.lt_of_le_of_lt (Int.ofNat_le.mp (of_decide_eq_true (Bool.and_eq_true_iff.mp (Bool.and_eq_true_iff.mp h).1).2)) (TF rfl)
theorem mP{w:List UInt8}(hk:k<μ.length)(hl:d.length<=lim)(h:Pl d p (w++32::(t++s)))(hw:∀c∈w,cx c.toNat=true)(w0:w≠[])(wA:aK (codes w)≠[65,76,76])(ht:Tok (fun c=>cH c.toNat) t s)(t0:t≠[])(t9:t.length<=19)(q:Q (.d (.tuple [.str (aK (codes w)),.int (numOf t:Nat)])) (sw μ k d (p+w.length+1+t.length))):ae (n+7) 73 [.loc k] (sw μ k d p) Q:=
 vH (af hk (NS hk hl h ⟨hw,eK rfl⟩ w0 (fun c hc=>BA (hw c hc)) (af hk (cD hk hl h.step (ai wA (af hk (nz hk hl h.step.one ht t0 t9 ⟨TF rfl,au hk q⟩)))))))
end
end
section
variable{n:Nat}{μ:Mu}{Q:KV}{T:List Nat}{a c:Nat}
theorem d_(hl:T.length<=lim)(h:T[a]? =some c)(c1:49<=c)(c2:c<=57)(hx:a+1=T.length\/∃c',T[a+1]? =some c'/\(c'<48\/57<c'))(q:Q (.d (.tuple [.int ((c-48:Nat):Int),.int ((a+1:Nat):Int)])) μ):ae (n+1) 9 [.str T,.int (a:Int)] μ Q:=by
 have h1:=(List.getElem?_eq_some_iff.mp h).1
 have c42:¬c=42:=fun e=>absurd (e▸c1) (Nat.not_le_of_lt (TF rfl))
 have c48:¬c=48:=fun e=>absurd (e▸c1) (Nat.not_le_of_lt (TF rfl))
 have e4:min (((0:Int)*10+(c:Int))-48) (4294967295+1)=((c-48:Nat):Int):=by omega
 have e7:¬((c-48:Nat):Int)>4294967295:=by omega
 have e6:¬(a:Int)+1=(a:Int):=PS (Nat.zero_lt_succ 0)
 rw[<-e4] at q e7
 have fin:aA n (gU.body.drop 4) ⟨[some (.str T),some (.int a),some (.int ((a:Int)+1)),some (.int (min (((0:Int)*10+(c:Int))-48) (4294967295+1)))],[]⟩ μ (aR μ Q):=
  ai e6 (ah h hl (ai (ne1 c48) (ai e7 ⟨TF rfl,ab q⟩)))
 refine qP ⟨hl,ak (il h1) (ah h hl (ai (ne1 c42) (aD ⟨hl,ak (il h1) (ah h hl (ak (Nat.le_of_succ_le c1) (ak c2 ⟨TF rfl,TF rfl,ah h hl (aD ?_)⟩)))⟩)))⟩
 rcases hx with hx|⟨c',h2,h3⟩
 ·exact⟨hl,ai (fun e=>absurd (Int.ofNat_lt.mp e) (Nat.not_lt.mpr (Nat.le_of_eq hx.symm))) fin⟩
 ·have h4:=(List.getElem?_eq_some_iff.mp h2).1
  rcases h3 with h3|h3
  ·exact⟨hl,ak (il h4) (ah (a:=a+1) h2 hl (ai (Nat.not_le.mpr h3) fin))⟩
  ·exact⟨hl,ak (il h4) (ah (a:=a+1) h2 hl (ak (Ta (TF rfl) (Nat.le_of_lt h3)) (ai (Nat.not_le.mpr h3) fin)))⟩
theorem zj(hl:T.length<=lim)(h:T[a]? =some 42)(q:Q (.d (.tuple [.int 0,.int ((a+1:Nat):Int)])) μ):ae (n+1) 9 [.str T,.int (a:Int)] μ Q:=
 qP ⟨hl,ak (il (List.getElem?_eq_some_iff.mp h).1) (ah h hl ⟨TF rfl,ab q⟩)⟩
end
section
theorem js:0<lim:=TF rfl
section
variable{n:Nat}{μ:Mu}{Q:KV}{a b c d:Nat}
theorem N0{x:Nat}:48+x-48=x:=Nat.add_sub_cancel_left ..
theorem tC:([a,b,c]:List Nat).length<=lim:=TF rfl
theorem uR{e:Nat}:([a,b,c,d,e]:List Nat).length<=lim:=TF rfl
theorem NA{x y:Nat}(hx:1<=x/\x<=9)(hy:1<=y/\y<=9)(q:Q (.d (.tuple [.tuple [.int (x:Int),.int (y:Int)]])) μ):ae (n+2) 10 [.str [48+x,58,48+y]] μ Q:=by
 rw[<-N0 (x:=x),<-N0 (x:=y)] at q
 exact l9 ⟨Nat.zero_le _,qZ (aD (d_ (a:=0) tC rfl (Nat.add_le_add_left hx.1 48) (Nat.add_le_add_left hx.2 48) (.inr ⟨58,rfl,.inr (TF rfl)⟩) ⟨tC,ah (a:=1) rfl tC
  (d_ (a:=2) tC rfl (Nat.add_le_add_left hy.1 48) (Nat.add_le_add_left hy.2 48) (.inl rfl) (mj ⟨TF rfl,(mj ⟨js,wD ⟨tC,mj ⟨js,iY q⟩⟩⟩)⟩))⟩))⟩
theorem Kj{x:Nat}(hx:1<=x/\x<=9)(q:Q (.d (.tuple [.tuple [.int (x:Int),.int 0]])) μ):ae (n+2) 10 [.str [48+x,58,42]] μ Q:=by
 rw[<-N0 (x:=x)] at q
 exact l9 ⟨Nat.zero_le _,qZ (aD (d_ (a:=0) tC rfl (Nat.add_le_add_left hx.1 48) (Nat.add_le_add_left hx.2 48) (.inr ⟨58,rfl,.inr (TF rfl)⟩) ⟨tC,ah (a:=1) rfl tC
  (zj (a:=2) tC rfl (mj ⟨TF rfl,(mj ⟨js,wD ⟨tC,mj ⟨js,iY q⟩⟩⟩)⟩))⟩))⟩
theorem JY{p:D}{v3 v4:Option V}{z:Nat}(hz:1<=z/\z<=9)(q:Q (.d (.tuple [p,.tuple [.int ((48+z-48:Nat):Int),.int ((48+z-48:Nat):Int)]])) μ):
  vg (n+1) (gM.at 2) ⟨[some (.str [a,b,c,d,48+z]),some (.loc μ.length),some (.int 4),v3,v4],[]⟩ (μ++[.list [p]]) (Az (aA (n+1) []) (aR μ Q)):=
 aD (d_ (a:=4) uR rfl (Nat.add_le_add_left hz.1 48) (Nat.add_le_add_left hz.2 48) (.inl rfl) ⟨uR,(mj ⟨TF rfl,(mj ⟨TF rfl,wD ⟨uR,mj ⟨TF rfl,iY q⟩⟩⟩)⟩)⟩)
theorem Hu{x y z:Nat}(hx:1<=x/\x<=9)(hy:1<=y/\y<=9)(hz:1<=z/\z<=9)(q:Q (.d (.tuple [.tuple [.int (x:Int),.int (y:Int)],.tuple [.int (z:Int),.int (z:Int)]])) μ):ae (n+2) 10 [.str [48+x,58,48+y,44,48+z]] μ Q:=by
 rw[<-N0 (x:=x),<-N0 (x:=y),<-N0 (x:=z)] at q
 exact l9 ⟨Nat.zero_le _,qZ (aD (d_ (a:=0) uR rfl (Nat.add_le_add_left hx.1 48) (Nat.add_le_add_left hx.2 48) (.inr ⟨58,rfl,.inr (TF rfl)⟩) ⟨uR,ah (a:=1) rfl uR
  (d_ (a:=2) uR rfl (Nat.add_le_add_left hy.1 48) (Nat.add_le_add_left hy.2 48) (.inr ⟨44,rfl,.inl (TF rfl)⟩) (mj ⟨TF rfl,(mj ⟨js,wD ⟨uR,ah (a:=3) rfl uR (JY hz q)⟩⟩)⟩))⟩))⟩
end
end
section
variable{n:Nat}{μ:Mu}{Q:KV}{k:Nat}{d s t:List UInt8}{p:Nat}{c:UInt8}
theorem j9{l:List Nat}(h:∀c∈l,c<128):∀c∈aK l,c<128:=fun c hc=>let⟨a,ha,e⟩:=List.mem_map.mp hc;e▸vx (h a ha)
structure cq(w:List UInt8)(U:List Nat)(s:List UInt8):Prop where
 tok:Tok (fun c=>bc c.toNat) w s
 ne:w≠[]
 up:aK (codes w)=U
theorem cq.lt{w:List UInt8}{U:List Nat}(h:cq w U s):∀c∈w,c.toNat<128:=fun c hc=>B1 (h.tok.1 c hc)
theorem cq.ult{w:List UInt8}{U:List Nat}(h:cq w U s):∀c∈U,c<128:=h.up▸j9 (nx h.lt)
theorem cq.len{w:List UInt8}{U:List Nat}(h:cq w U s):U.length=w.length:=by rw[<-h.up,aK,TN,cP]
theorem NB{w:List UInt8}{U:List Nat}(hl:d.length<=lim)(h:Pl d p (w++s))(hw:cq w U s)(q:Q (.str U) μ):ae (n+2) 6 [.str (codes w)] μ Q:=
 bM (cP w▸Ta h.zK hl) (nx hw.lt) (hw.up.symm▸q)
noncomputable abbrev Ls(μ:Mu)(k:Nat):Mu:=μ++[.cell (some (.loc k))]
theorem xH{w:List UInt8}{U:List Nat}{num:Int}(hk:k<μ.length)(hl:d.length<=lim)(h:Pl d p (32::(w++s)))(hw:cq w U s)(q:aA (n+6) (dr.body.drop 2) ⟨[some (.int num),some (.str U)],[μ.length]⟩ (sw (Ls μ k) k d (p+1+w.length)) (aR (sw μ k d p) Q)):ae (n+7) 77 [.loc k,.int num] (sw μ k d p) Q:=by
 refine pR ?_
 rw[da,mA hk]
 have hk' {x:aI}:k<(μ++[x]).length:=bh hk
 exact bD hk (af hk' (cD hk' hl h (bD hk (g6 hk' hl h.one hw.tok hw.ne hw.lt (NB hl h.one hw q)))))
theorem xJ{w:List UInt8}{U:List Nat}{num:Int}(hk:k<μ.length)(hl:d.length<=lim)(h:Pl d p (32::(w++s)))(hw:cq w U s)(hU:U∈([[69,88,73,83,84,83],[69,88,80,85,78,71,69]]:List (List Nat)))(q:Q (.d (.tuple [.str (ax U),.int num])) (sw μ k d (p+(1+w.length)))):ae (n+7) 77 [.loc k,.int num] (sw μ k d p) Q:=by
 rw[<-Nat.add_assoc] at q
 exact xH hk hl h hw ⟨TF rfl,ak hU (ef (hw.len▸Ta h.one.zK hl) hw.ult ⟨TF rfl,gn hk q⟩)⟩
theorem FT{j:Nat}{x:D}(hk:k<μ.length)(hj:j≠k)(hc:μ[j]? =some (.cell (some (.loc k))))(hl:d.length<=lim)(h:Pl d p (t++s))(ht:cB x t)(hs:lQ s)(q:Q (.d x) (sw μ k d (p+t.length))):
  Ow (n+16) (.lam 1 [j]) [] (sw μ k d p) Q:=
 AY rfl (E5 hj hc (sg hk hl ht hs h (au hk q)))
theorem cB.first{x:D}(h:cB x t):t≠[]/\t.head?≠some 41:=by
 cases h with
 |flags l a b=>exact⟨nofun,nofun⟩
 |val nm x v hnm hf hv=>
  rcases hnm with⟨h0,hc⟩|rfl
  ·obtain⟨c,t',rfl⟩:=List.exists_cons_of_ne_nil h0
   have:=hc c (.head _)
   exact⟨nofun,fun e=>by rw[Option.some.inj e] at this;cases this⟩
  ·exact⟨nofun,nofun⟩
theorem yo{x:aI}{l:Mu}:(μ++[x]++l)[μ.length]? =some x:=(List.getElem?_append_left (by rw[TM];exact Nat.lt_succ_self _)).trans fw
theorem xm{w:List UInt8}{num:Int}{its:List (D×List UInt8)}(hk:k<μ.length)(hl:d.length<=lim)(h:Pl d p (32::(w++32::(aF its++s))))(hw:cq w [70,69,84,67,72] (32::(aF its++s)))(hi:∀x∈its,cB x.1 x.2)(hz2:its.length<=lim)(q:Q (.d (.tuple [.str [102,101,116,99,104],.int num,.tuple (its.map (·.1))])) (sw μ k d (p+(1+w.length+1+(aF its).length)))):ae (n+18) 77 [.loc k,.int num] (sw μ k d p) Q:=by
 have hk' {x:aI}:k<(μ++[x]).length:=bh hk
 rw[show p+(1+w.length+1+(aF its).length)=p+1+w.length+1+(aF its).length by omega] at q
 refine xH (n:=n+11) hk hl h hw ⟨TF rfl,bD hk (af hk' (cD hk' hl h.one.step (bD hk (af hk' (oy (n:=n+13) (its:=its) hk' hl (fun x hx=>?_) h.one.step.one hz2 ⟨by rw[TN];exact hz2,TF rfl,gn hk q⟩)))))⟩
 exact⟨(hi x hx).first.1,(hi x hx).first.2,fun acc p s Q hs h q=>FT (bh hk') (Nat.ne_of_gt hk) yo hl h (hi x hx) (hs.imp id .inl) q⟩
end
section
structure oz(nm t s:List UInt8):Prop where
 plain:∀c∈nm,gy c
 sp:gW nm t\/(t=nm/\Tok (fun c=>ez c.toNat) nm s/\nm≠[])
 short:nm.length<=100
inductive dQ:D->List UInt8->Prop
 |mk (w t:List UInt8):(∀c∈w,cx c.toNat=true)->w≠[]->aK (codes w)≠[65,76,76]->dJ t->t≠[]->t.length<=19->dQ (.tuple [.str (aK (codes w)),.int (numOf t:Nat)]) (w++32::t)
section
variable{n:Nat}{μ:Mu}{Q:KV}{k:Nat}{d s t:List UInt8}{p:Nat}{c:UInt8}
theorem q7{nm:List UInt8}(hk:k<μ.length)(hl:d.length<=lim)(h:Pl d p (t++s))(hN:oz nm t s)(q:Q (.str (codes nm)) (sw μ k d (p+t.length))):ae (n+7) 67 [.loc k] (sw μ k d p) Q:=by
 rcases hN.sp with a|⟨rfl,a,b⟩
 ·exact yB hk hl h a hN.plain (Ta hN.short (TF rfl)) q
 ·exact zr hk hl h a b hN.plain q
theorem JJ(hs:s.head?=some 32\/s.head?=some 41):∀c,s.head?=some c->cH c.toNat=false:=by
 intro c hc
 rcases hs with h|h<;>(rw[h] at hc;cases hc;rfl)
theorem IM{j:Nat}{x:D}(hk:k<μ.length)(hj:j≠k)(hc:μ[j]? =some (.cell (some (.loc k))))(hl:d.length<=lim)(h:Pl d p (t++s))(ht:dQ x t)(hs:s.head?=some 32\/s.head?=some 41)(q:Q (.d x) (sw μ k d (p+t.length))):
  Ow (n+8) (.lam 2 [j]) [] (sw μ k d p) Q:=by
 cases ht with
 |mk w t a b c e f g=>
  rw[bG] at h
  rw[TM,<-Nat.add_assoc] at q
  exact AY rfl (E5 hj hc (mP hk hl h a b c ⟨e,JJ hs⟩ f g (au hk (Nat.add_right_comm .. ▸q))))
theorem dQ.first{x:D}(h:dQ x t):t≠[]/\t.head?≠some 41:=by
 cases h with
 |mk w t a b c e f g=>
  obtain⟨c0,t',rfl⟩:=List.exists_cons_of_ne_nil b
  have:=a c0 (.head _)
  exact⟨nofun,fun e=>by rw[Option.some.inj e] at this;cases this⟩
theorem rm{U:List Nat}(hk:k<μ.length)(hl:d.length<=lim)(h:Pl d p (32::s))(q:aA (n+3) (gJ.body.drop 1) ⟨[some (.str U),none,none],[μ.length]⟩ (sw (Ls μ k) k d (p+1)) (aR (sw μ k d p) Q)):ae (n+4) 78 [.loc k,.str U] (sw μ k d p) Q:=by
 refine Ao ?_
 rw[da,mA hk]
 exact bD hk (af (bh hk) (cD (bh hk) hl h q))
theorem Nq{l:List (List UInt8)}(hk:k<μ.length)(hl:d.length<=lim)(h:Pl d p (32::(aF (a_ l)++s)))(hi:∀t∈l,t≠[]/\j4 t)(hz:l.length<=lim)(q:Q (.d (.tuple [.str [102,108,97,103,115],.tuple (l.map fun t=>.str (codes t))])) (sw μ k d (p+(1+(aF (a_ l)).length)))):ae (n+9) 78 [.loc k,.str [70,76,65,71,83]] (sw μ k d p) Q:=by
 rw[<-Nat.add_assoc] at q
 exact rm hk hl h (bD hk (wg (bh hk) hl hi h.one hz ⟨TF rfl,gn hk q⟩))
theorem Mx{nm:List UInt8}{its:List (D×List UInt8)}(hk:k<μ.length)(hl:d.length<=lim)(h:Pl d p (32::(t++32::(aF its++s))))(hN:oz nm t (32::(aF its++s)))(hi:∀x∈its,dQ x.1 x.2)(hz:its.length<=lim)(q:Q (.d (.tuple [.str [115,116,97,116,117,115],.str (codes nm),.tuple (its.map (·.1))])) (sw μ k d (p+(1+t.length+1+(aF its).length)))):ae (n+10) 78 [.loc k,.str [83,84,65,84,85,83]] (sw μ k d p) Q:=by
 have hk' {x:aI}:k<(μ++[x]).length:=bh hk
 rw[show p+(1+t.length+1+(aF its).length)=p+1+t.length+1+(aF its).length by omega] at q
 refine rm hk hl h (bD hk (q7 hk' hl h.one hN (bD hk (af hk' (cD hk' hl h.one.step (bD hk (af hk' (oy (n:=n+5) (its:=its) hk' hl (fun x hx=>?_) h.one.step.one hz ⟨by rw[TN];exact hz,TF rfl,gn hk q⟩))))))))
 exact⟨(hi x hx).first.1,(hi x hx).first.2,fun acc p s Q hs h q=>IM (bh hk') (Nat.ne_of_gt hk) yo hl h (hi x hx) hs q⟩
theorem MB{nm:List UInt8}{l:List (List UInt8)}{U:List Nat}(hk:k<μ.length)(hl:d.length<=lim)(hU:U=[76,73,83,84]\/U=[76,83,85,66])(h:Pl d p (32::(aF (a_ l)++([32,34,47,34,32]++(t++s)))))(hi:∀t∈l,t≠[]/\j4 t)(hz:l.length<=lim)(hN:oz nm t s)(q:Q (.d (.tuple [.str (ax U),.tuple (l.map fun t=>.str (codes t)),.str (codes nm)])) (sw μ k d (p+(1+(aF (a_ l)).length+5+t.length)))):ae (n+9) 78 [.loc k,.str U] (sw μ k d p) Q:=by
 have hk' {x:aI}:k<(μ++[x]).length:=bh hk
 rw[show p+(1+(aF (a_ l)).length+5+t.length)=p+1+(aF (a_ l)).length+5+t.length by omega] at q
 have hU1:¬U=[70,76,65,71,83]:=by rcases hU with rfl|rfl<;>exact nofun
 have hU2:¬U=[83,84,65,84,85,83]:=by rcases hU with rfl|rfl<;>exact nofun
 have hU3:U.length<=lim:=by rcases hU with rfl|rfl<;>exact TF rfl
 have hU4:∀c∈U,c<128:=by rcases hU with rfl|rfl<;>decide
 exact rm hk hl h (ai hU1 (ai hU2 (bD hk (wg hk' hl hi h.one hz (bD hk (af hk' (iw (t:=[32,34,47,34,32]) hk' hl h.one.step (ef hU3 hU4 (bD hk (q7 hk' hl (Pl.step (t:=[32,34,47,34,32]) h.one.step) hN ⟨TF rfl,gn hk q⟩))))))))))
end
end
section
variable{n:Nat}{μ:Mu}{Q:KV}{k:Nat}{d s t:List UInt8}{p:Nat}{c:UInt8}
noncomputable abbrev nums(l:List (List UInt8)):Prop:=∀t∈l,t≠[]/\t.length<=19/\dJ t
theorem o9{l:List (List UInt8)}(hk:k<μ.length)(hl:d.length<=lim)(hs:kO s)(hs2:s.take 9≠[32,40,77,79,68,83,69,81,32])(hi:nums l)(h:Pl d p (ao l++s))(hz:l.length<=lim)(q:Q (.d (.tuple [.str [115,101,97,114,99,104],.tuple (l.map fun t=>.int (numOf t:Nat)),.int 0])) (sw μ k d (p+(ao l).length))):ae (n+6) 79 [.loc k,.str [83,69,65,82,67,72]] (sw μ k d p) Q:=
 dp (gm hk hl hs hi h hz (af hk (bp hk hl h.step (TF rfl) hs2 ⟨TF rfl,au hk q⟩)))
theorem wJ{l:List (List UInt8)}(hk:k<μ.length)(hl:d.length<=lim)(hs:kO s)(hi:nums l)(h:Pl d p (ao l++s))(hz:l.length<=lim)(q:Q (.d (.tuple [.str [115,111,114,116],.tuple (l.map fun t=>.int (numOf t:Nat))])) (sw μ k d (p+(ao l).length))):ae (n+6) 79 [.loc k,.str [83,79,82,84]] (sw μ k d p) Q:=
 dp (gm hk hl hs hi h hz ⟨TF rfl,au hk q⟩)
noncomputable abbrev cy:List UInt8:=[32,40,77,79,68,83,69,81,32]
theorem pD{l:List (List UInt8)}(hk:k<μ.length)(hl:d.length<=lim)(hi:nums l)(h:Pl d p (ao l++(cy++(t++41::s))))(hz:l.length<=lim)(ht:dJ t)(t0:t≠[])(t9:t.length<=19)(q:Q (.d (.tuple [.str [115,101,97,114,99,104],.tuple (l.map fun t=>.int (numOf t:Nat)),.int (numOf t:Nat)])) (sw μ k d (p+(ao l).length+9+t.length+1))):ae (n+6) 79 [.loc k,.str [83,69,65,82,67,72]] (sw μ k d p) Q:=
 have h2:=Pl.step (t:=cy) h.step
 dp (gm hk hl (.inr ⟨40,_,rfl,rfl⟩) hi h hz (af hk (aU (t:=cy) hk hl h.step (af hk (nz hk hl h2 ⟨ht,eK rfl⟩ t0 t9 (af hk (iw (t:=[41]) hk hl h2.step ⟨TF rfl,au hk q⟩)))))))
theorem pN(hk:k<μ.length)(hl:d.length<=lim)(h:Pl d p s)(hs:s.head?≠some 32)(q:Q (.d (.tuple [.str [116,104,114,101,97,100],.bytes []])) (sw μ k d p)):ae (n+6) 79 [.loc k,.str [84,72,82,69,65,68]] (sw μ k d p) Q:=
 dp (af hk (bp (t:=[32]) hk hl h (TF rfl) (kH hs) ⟨TF rfl,ab q⟩))
theorem pV(hk:k<μ.length)(hl:d.length<=lim)(h:Pl d p (32::(t++s)))(ht:Tok (fun c=>cU c.toNat) t s)(q:Q (.d (.tuple [.str [116,104,114,101,97,100],.bytes t])) (sw μ k d (p+1+t.length))):ae (n+6) 79 [.loc k,.str [84,72,82,69,65,68]] (sw μ k d p) Q:=
 dp (af hk (aU (t:=[32]) hk hl h (af hk (lW ua hk hl h.one ht.1 ht.2 ⟨TF rfl,au hk q⟩))))
end
section
variable{n:Nat}{μ:Mu}{Q:KV}{k:Nat}{d s t:List UInt8}{p:Nat}{c:UInt8}
noncomputable abbrev ma:List UInt8:=[32,40,84,65,71,32]
noncomputable abbrev JU:List UInt8:=[32,85,73,68]
noncomputable def lK(b:Bool):List UInt8:=cond b JU []
theorem pq{tg w:List UInt8}{b:Bool}(hk:k<μ.length)(hl:d.length<=lim){ts:List UInt8}(hts:gW tg ts)(tgz:tg.length<=lim)
  (h:Pl d p (ma++(ts++41::(lK b++32::(w++32::(t++s)))))) (hw:∀c∈w,cx c.toNat=true) (w0:w≠[]) (wA:aK (codes w)≠[65,76,76]) (w3:3<=w.length) (wU:w.take 3≠[85,73,68]) (hsN:s.head?≠some 32/\∀c,s.head?=some c->cH c.toNat=false) (ht:dJ t) (t0:t≠[]) (t9:t.length<=19)
  (q:Q (.d (.tuple [.str [101,115,101,97,114,99,104],.str (codes tg),.bool b,.tuple [.tuple [.str (aK (codes w)),.int (numOf t:Nat)]]])) (sw μ k d (p+6+ts.length+1+(lK b).length+1+w.length+1+t.length))):ae (n+9) 79 [.loc k,.str [69,83,69,65,82,67,72]] (sw μ k d p) Q:=by
 have hk' {x:aI}:k<(μ++[x]).length:=bh hk
 have g0:Pl d (p+6) _:=Pl.step (t:=ma) h
 have g1:=g0.step
 have step:∀K:KV,K (.bool b) (sw μ k d (p+6+ts.length+1+(lK b).length))->ae (n+8) 24 [.loc k,.bytes JU] (sw μ k d (p+6+ts.length+1)) K:=by
  intro K hK
  cases b with
  |true=>exact aU (t:=JU) hk hl g1.one hK
  |false=>
   refine bp (t:=JU) hk hl g1.one (TF rfl) (fun e=>wU ?_) hK
   have e:(w++32::(t++s)).take 3=[85,73,68]:=(List.cons.inj e).2
   rwa [List.take_append_of_le_length w3] at e
 have g2:=Pl.step (t:=lK b) g1.one
 refine dp (af hk (aU (t:=ma) hk hl h (af hk (kI hk hl g0 hts (id_map tgz (aQ (fun c:UInt8=>D.str [c.toNat]) rfl tgz (fun c hc K hK=>oF (Nat.lt_trans (u8 c) (TF rfl)) hK) (j8 tgz (af hk (iw (t:=[41]) hk hl g1 (af hk (step _ ⟨Nat.zero_le _,yU hk ?_⟩)))))))))))
 exact aD (af hk' (aU (t:=[32]) hk' hl g2 (bD hk (mP hk' hl g2.one hw w0 wA ⟨ht,hsN.2⟩ t0 t9 (oG hk js (aD (af hk' (bp (t:=[32]) hk' hl g2.one.step.one.step (TF rfl) (kH hsN.1) (bD hk ⟨js,TF rfl,gn hk q⟩)))))))))
end
section
noncomputable abbrev bX:List (List Nat):=[[79,75],[78,79],[66,65,68],[66,89,69],[80,82,69,65,85,84,72]]
noncomputable abbrev jH:List Nat:=[80,69,82,77,65,78,69,78,84,70,76,65,71,83]
inductive i0:Bool->D->List UInt8->Prop
 |flags (l:List (List UInt8)):(∀t∈l,t≠[]/\j4 t)->l.length<=lim->i0 true (.list (l.map fun t=>.atom (codes t))) (aF (a_ l))
 |val (x t):cY 5 x t->i0 false x t
inductive fH:D->List UInt8->Prop
 |none:fH .none []
 |code (w:List UInt8) (its:List (D×List UInt8)):j4 w->w≠[]->w.map eH≠pI->zR w=false->(∀x∈its,i0 (decide (codes w=jH)) x.1 x.2)->its.length<lim->w.length<=1000->
   fH (.list (.atom (codes w)::its.map (·.1))) (91::(w++(aN its++[93,32])))
section
variable{n:Nat}{μ:Mu}{Q:KV}{k:Nat}{d s t:List UInt8}{p:Nat}{c:UInt8}
theorem rL(its:List (D×List UInt8))(s:List UInt8):lQ (aN its++93::s):=by
 cases its with
 |nil=>exact .inr (.inr rfl)
 |cons a r=>exact .inl rfl
theorem D7{b:Bool}{x:D}(hk:k<μ.length)(hl:d.length<=lim)(hi:i0 b x t)(hs:lQ s)(h:Pl d p (t++s))(q:Q (.d x) (sw μ k d (p+t.length))):ae (n+13) 69 [.loc k,.bool b] (sw μ k d p) Q:=by
 cases hi with
 |flags l a c=>exact o5 hk hl a h c q
 |val x t c=>exact oV (r:=5) (TF rfl) hk hl c hs h q
noncomputable abbrev codeS:St:=((dh.at 3).wb).getD 2 .stop
theorem tV{b:Bool}{v1 v2:Option V}{Q:KS}(hk:k<μ.length)(hl:d.length<=lim):∀(its:List (D×List UInt8)) (acc:List D) {p:Nat},(∀x∈its,i0 b x.1 x.2)->Pl d p (aN its++93::s)->acc.length+its.length<=lim->
  Q .next ⟨[some (.loc k),v1,v2,some (.loc μ.length),some (.bool b)],[]⟩ (sw (μ++[.list (acc++its.map (·.1))]) k d (p+(aN its).length+1))->
  vg (n+13) codeS ⟨[some (.loc k),v1,v2,some (.loc μ.length),some (.bool b)],[]⟩ (sw (μ++[.list acc]) k d p) Q
 |[],acc,p,hi,h,hz,q=>aD (af (bh hk) (aU (t:=[93]) (bh hk) hl h (List.append_nil acc▸q)))
 |(x,t)::its,acc,p,hi,h,hz,q=>by
  have hk' {x:aI}:k<(μ++[x]).length:=bh hk
  have hz2:acc.length<lim:=Nat.lt_of_lt_of_le (Nat.lt_add_of_pos_right (Nat.zero_lt_succ _)) hz
  have hz3:(acc++[x]).length+its.length<=lim:=by rw[TM,Nat.add_assoc,Nat.add_comm [x].length];exact hz
  have h:Pl d p (32::(t++(aN its++93::s))):=TP t (aN its) (93::s)▸h
  rw[List.map_cons,List.append_cons acc,tail_cons,List.length_cons,TM,show p+(t.length+(aN its).length+1)+1=p+1+t.length+(aN its).length+1 by omega] at q
  exact aD (af hk' (bp (t:=[93]) hk' hl h (TF rfl) nofun (af hk' (cD hk' hl h (bD hk (D7 hk' hl (hi (x,t) (.head _)) (rL its s) h.one (oG hk hz2
   (tV hk hl its (acc++[x]) (fun y hy=>hi y (.tail _ hy)) h.one.step hz3 q))))))))
theorem wO{tag U:List Nat}{K:KB}(hU:U∈bX)(htag:tag=[42]\/(U≠[66,89,69]/\U≠[80,82,69,65,85,84,72]))(hK:K false μ):eT n (dh.at 0).wt ⟨[some (.loc k),some (.str tag),some (.str U),none,none],[]⟩ μ K:=by
 refine⟨rfl,.head _,ai (fun a=>a hU) ?_⟩
 rcases htag with rfl|⟨h1,h2⟩
 ·exact hK
 ·by_cases ht:tag=[42]
  ·exact ai (fun e=>e ht) hK
  ·refine ak ht ⟨TF rfl,ai (fun e=>?_) hK⟩
   cases e with
   |head=>exact h1 rfl
   |tail _ e=>cases e with
    |head=>exact h2 rfl
    |tail _ e=>cases e
end
section
variable{n:Nat}{μ:Mu}{Q:KV}{k:Nat}{d s t:List UInt8}{p:Nat}{c:UInt8}
theorem HX{U:List Nat}(hU:U∈bX):U.length<=lim/\∀c∈U,c<128:=
 ⟨Ta ((by decide:∀x∈bX,x.length<=10) U hU) (TF rfl),(by decide:∀x∈bX,∀c∈x,c<128) U hU⟩
theorem yM{tag U:List Nat}{cd:D}{ct T:List UInt8}(hk:k<μ.length)(hl:d.length<=lim)(hU:U∈bX)(htag:tag=[42]\/(U≠[66,89,69]/\U≠[80,82,69,65,85,84,72]))(hc:fH cd ct)
  (h:Pl d p (32::(ct++(T++s)))) (hT:Tok (fun c=>cU c.toNat) T s) (h0:T.head?≠some 91) (h1:¬(cut (codes T) none (some 1))=[91]) (h2:¬(cut (codes T) (some (-1)) none)=[125])
  (h00:s.head?≠some 91)
  (q:Q (.d (.tuple [.str (ax U),.str tag,cd,.str (codes T)])) (sw μ k d (p+1+ct.length+T.length))):ae (n+15) 76 [.loc k,.str tag,.str U] (sw μ k d p) Q:=by
 have hU1:=HX hU
 refine sQ (wO hU htag (af hk (cD hk hl h ?_)))
 cases hc with
 |none=>
  have h:Pl d p (32::(T++s)):=h
  have hh:(T++s).head?≠some 91:=by
   cases T with
   |nil=>exact h00
   |cons a r=>exact h0
  exact af hk (bp (t:=[91]) hk hl h.one (TF rfl) (kH hh) (ef hU1.1 hU1.2 (j6 hk hl h.one hT h1 h2 ⟨TF rfl,au hk q⟩)))
 |code w its a1 a2 a3 a4 a6 a7 a8=>
  have hk' {x:aI}:k<(μ++[x]).length:=bh hk
  have h:Pl d p (32::91::(w++(aN its++93::(32::(T++s))))):=by
   rw[List.cons_append,TP,TP] at h;exact h
  have h3:=h.one.one.step.step.one
  rw[show p+1+(91::(w++(aN its++[93,32]))).length+T.length=p+1+1+w.length+(aN its).length+1+1+T.length by simp only[List.length_cons,TM,List.length_nil];omega] at q
  refine af hk (aU (t:=[91]) hk hl h.one (af hk (sf (CR hl (.plain 0 w _ (.atom a3 a4) a1 a2) (n:=n+7) (dep:=0) (Nat.zero_le _) hk (rL its _) h.one.one ⟨TF rfl,yU hk ⟨Int.le_refl _,bD hk (ah (a:=0) rfl (TF rfl) ⟨Int.le_refl _,bD hk (ah (a:=0) rfl (TF rfl) ?_)⟩)⟩⟩))))
  refine tV (n:=n+1) hk hl its [.atom (codes w)] a6 h.one.one.step (Nat.add_comm .. ▸a7) (af hk' (cD hk' hl h3 (ef hU1.1 hU1.2 (j6 hk' hl h3.one hT h1 h2 ⟨TF rfl,?_⟩))))
  exact⟨_,⟨_,_,rfl,⟨_,_,rfl,⟨_,_,⟨by rw[da];exact TG _,.atom (codes w)::its.map (·.1),Cj hk,rfl⟩,⟨_,_,rfl,rfl,rfl⟩,rfl⟩,rfl⟩,rfl⟩,gn hk q⟩
end
end
section
noncomputable abbrev Dh:List (List Nat):=[[70,76,65,71,83],[83,84,65,84,85,83],[76,73,83,84],[76,83,85,66]]
noncomputable abbrev nS:List (List Nat):=[[83,69,65,82,67,72],[69,83,69,65,82,67,72],[83,79,82,84],[84,72,82,69,65,68]]
noncomputable abbrev HZ:List (List Nat):=[[67,65,80,65,66,73,76,73,84,89],[69,78,65,66,76,69,68]]
noncomputable abbrev lH:List Nat:=[86,65,78,73,83,72,69,68]
theorem ae.mono{n i:Nat}{args:List V}{μ:Mu}{Q Q':KV}(h:ae n i args μ Q)(k:∀v μ',Q v μ'->Q' v μ'):ae n i args μ Q':=fun c A w us a G ha hA S C=>(h c A w us a G ha hA S C).mono fun u w' st q=>q.elim fun v q=>q.elim fun μ' q=>⟨v,μ',q.1,q.2.1,k v μ' q.2.2⟩
theorem H4{n i:Nat}{args:List V}{μ μ₁:Mu}{Q Q':KV}(h:ae n i args μ₁ (PO μ Q))(g:∀x μ',nJ μ Q μ' x->Q' (.d x) μ'):ae n i args μ₁ Q':=
 h.mono fun v μ' hq=>aB (P:=fun v=>Q' v μ') v (fun x q=>g x μ' q) hq
section
variable{n:Nat}{μ:Mu}{Q:KV}{k:Nat}{d s t w:List UInt8}{p:Nat}{c:UInt8}{U:List Nat}
theorem cq.first(h:cq w U s)(hu:58<=U.headD 0):∃c r,w=c::r/\cH c.toNat=false:=by
 obtain⟨c,r,rfl⟩:=List.exists_cons_of_ne_nil h.ne
 refine⟨c,r,rfl,Bool.eq_false_iff.mpr fun e=>?_⟩
 have e:=si e
 rw[<-h.up] at hu
 have hu:58<=dz c.toNat:=hu
 rw[dz,if_neg fun q=>Nat.not_lt.mpr (Ta q.1 e.2) (TF rfl)] at hu
 exact Nat.not_lt.mpr e.2 hu
theorem mJ(hk:k<μ.length)(hl:d.length<=lim)(h:Pl d p (w++s))(hw:cq w U s)(hu:58<=U.headD 0)
  (q:aA (n+6) (dq.body.drop 2) ⟨[some (.loc k),some (.str U),none],[]⟩ (sw μ k d (p+w.length)) (aR (sw μ k d p) Q)):ae (n+7) 80 [.loc k] (sw μ k d p) Q:=by
 obtain⟨c,r,e,hc⟩:=hw.first hu
 exact jJ (af hk (aO hk hl (h.cast e) (cu (aZ hc (g6 hk hl h hw.tok hw.ne hw.lt (NB hl h hw q))))))
theorem Iw{g:List UInt8}(hk:k<μ.length)(hl:d.length<=lim)(h:Pl d p (g++32::s))(hg:dJ g)(g0:g≠[])(g9:g.length<=19)
  (q:ae (n+4) 77 [.loc k,.int (numOf g:Nat)] (sw μ k d (p+g.length)) (PO (sw μ k d p) Q)):ae (n+5) 80 [.loc k] (sw μ k d p) Q:=by
 obtain⟨c,r,e⟩:=List.exists_cons_of_ne_nil g0
 exact jJ (af hk (aO hk hl (h.cast e) (cu (aW (hg c (e▸.head _)) (af hk (nz hk hl h ⟨hg,eK rfl⟩ g0 g9 (H4 q fun _ _ q=>q)))))))
theorem Ai(hk:k<μ.length)(hl:d.length<=lim)(h:Pl d p (w++s))(hw:cq w U s)(hU:U∈Dh)
  (q:ae (n+6) 78 [.loc k,.str U] (sw μ k d (p+w.length)) (PO (sw μ k d p) Q)):ae (n+7) 80 [.loc k] (sw μ k d p) Q:=
 mJ hk hl h hw ((by decide:∀x∈Dh,58<=x.headD 0) U hU) ⟨TF rfl,ak hU (H4 q fun _ _ q=>q)⟩
end
end
section
variable{n:Nat}{μ:Mu}{Q:KV}{k:Nat}{d s t w:List UInt8}{p:Nat}{c:UInt8}{U:List Nat}
theorem iP(hk:k<μ.length)(hl:d.length<=lim)(h:Pl d p (w++s))(hw:cq w U s)(hU:U∈nS)
  (q:ae (n+6) 79 [.loc k,.str U] (sw μ k d (p+w.length)) (PO (sw μ k d p) Q)):ae (n+7) 80 [.loc k] (sw μ k d p) Q:=
 mJ hk hl h hw ((by decide:∀x∈nS,58<=x.headD 0) U hU) ⟨TF rfl,ai ((by decide:∀x∈nS,x∉Dh) U hU) ⟨TF rfl,ak hU (H4 q fun _ _ q=>q)⟩⟩
theorem Ji{l:List (List UInt8)}(hk:k<μ.length)(hl:d.length<=lim)(hw:cq w U (ao l++s))(hU:U∈HZ)(h:Pl d p (w++(ao l++s)))
  (hs:s.head?≠some 32/\∀c,s.head?=some c->bc c.toNat=false) (hi:∀t∈l,t≠[]/\∀c∈t,bc c.toNat=true) (hz:l.length<=lim)
  (q:Q (.d (.tuple [.str (ax U),.tuple (l.map fun t=>.str (codes t))])) (sw μ k d (p+w.length+(ao l).length))):ae (n+8) 80 [.loc k] (sw μ k d p) Q:=
 mJ hk hl h hw ((by decide:∀x∈HZ,58<=x.headD 0) U hU) ⟨TF rfl,ai ((by decide:∀x∈HZ,x∉Dh) U hU) ⟨TF rfl,ai ((by decide:∀x∈HZ,x∉nS) U hU) ⟨TF rfl,ak hU
  (ef (hw.len▸Ta h.zK hl) hw.ult (wL hk hl hs hi h.step hz ⟨TF rfl,au hk q⟩))⟩⟩⟩
noncomputable abbrev CE:List UInt8:=[40,69,65,82,76,73,69,82,41,32]
noncomputable def lP(b:Bool):List UInt8:=cond b CE []
theorem NH{b:Bool}{x:D}(hk:k<μ.length)(hl:d.length<=lim)(hw:cq w lH (32::(lP b++(t++s))))(h:Pl d p (w++32::(lP b++(t++s))))
  (ht:Tok (fun c=>l_ c.toNat) t s) (t0:t≠[]) (t7:∀c∈t,c.toNat<128) (te:t.head?≠some 40) (hx:∀(m:Nat) (μ:Mu) (K:KV),K (.d x) μ->ae (m+2) 10 [.str (codes t)] μ K)
  (q:Q (.d (.tuple [.str [118,97,110,105,115,104,101,100],x,.bool b])) (sw μ k d (p+w.length+1+(lP b).length+t.length))):ae (n+7) 80 [.loc k] (sw μ k d p) Q:=by
 have g2:Pl d (p+w.length+1) (lP b++(t++s)):=h.step.one
 have step:∀K:KV,K (.bool b) (sw μ k d (p+w.length+1+(lP b).length))->ae (n+6) 24 [.loc k,.bytes CE] (sw μ k d (p+w.length+1)) K:=by
  intro K hK
  cases b with
  |true=>exact aU (t:=CE) hk hl g2 hK
  |false=>
   refine bp (t:=CE) hk hl g2 (TF rfl) ?_ hK
   obtain⟨c,t',rfl⟩:=List.exists_cons_of_ne_nil t0
   exact fun e=>te (congrArg some (List.cons.inj e).1)
 exact mJ hk hl h hw (TF rfl) ⟨TF rfl,TF rfl,TF rfl,af hk (cD hk hl h.step (af hk (step _ (af hk (AV hk hl g2.step ht t0 t7 (hx _ _ _ ⟨TF rfl,au hk q⟩))))))⟩
theorem Dj{cd:D}{ct T:List UInt8}(hk:k<μ.length)(hl:d.length<=lim)(hU:U∈bX)(hc:fH cd ct)(h:Pl d p (w++32::(ct++(T++s))))(hw:cq w U (32::(ct++(T++s))))
  (hT:Tok (fun c=>cU c.toNat) T s) (h0:T.head?≠some 91) (h1:¬(cut (codes T) none (some 1))=[91]) (h2:¬(cut (codes T) (some (-1)) none)=[125]) (h00:s.head?≠some 91)
  (q:Q (.d (.tuple [.str (ax U),.str [42],cd,.str (codes T)])) (sw μ k d (p+w.length+1+ct.length+T.length))):ae (n+16) 80 [.loc k] (sw μ k d p) Q:=
 have no:∀L:List (List Nat),(∀x∈bX,x∉L)->U∉L:=fun L hL=>hL U hU
 mJ hk hl h hw ((by decide:∀x∈bX,58<=x.headD 0) U hU) ⟨TF rfl,ai (no Dh (by decide)) ⟨TF rfl,ai (no nS (by decide)) ⟨TF rfl,ai (no HZ (by decide))
  (ai (fun e=>no [lH] (by decide) (e▸.head _)) (ai (fun e=>no [[73,68]] (by decide) (e▸.head _)) (ai (fun e=>no [[78,65,77,69,83,80,65,67,69]] (by decide) (e▸.head _)) (yM hk hl hU (.inl rfl) hc h.step hT h0 h1 h2 h00 (au hk q)))))⟩⟩⟩
end
section
noncomputable def Reads(x:D)(t:List UInt8):Prop:=∀ ⦃n:Nat⦄ ⦃μ:Mu⦄ ⦃Q:KV⦄,t.length<=lim->Q (.d x) μ->ae (n+60) 81 [.bytes t] μ Q
noncomputable def Un(x:D)(B:List UInt8):Prop:=∀ ⦃n:Nat⦄ ⦃μ:Mu⦄ ⦃Q:KV⦄ ⦃k:Nat⦄ ⦃d:List UInt8⦄ ⦃p:Nat⦄,k<μ.length->d.length<=lim->Pl d p (B++[13,10])->Q (.d x) (sw μ k d (p+B.length))->ae (n+50) 80 [.loc k] (sw μ k d p) Q
structure gr(T:List UInt8):Prop where
 txt:∀c∈T,cU c.toNat=true
 h0:T.head?≠some 91
 h1:¬(cut (codes T) none (some 1))=[91]
 h2:¬(cut (codes T) (some (-1)) none)=[125]
theorem gr.tok{T r:List UInt8}(h:gr T):Tok (fun c=>cU c.toNat) T (13::r):=⟨h.txt,eK rfl⟩
section
variable{n:Nat}{μ:Mu}{Q:KV}{k:Nat}{d s t w:List UInt8}{p:Nat}{c:UInt8}{U:List Nat}
theorem AA(q:Q (.loc μ.length) (sw (μ++[.wire d 0]) μ.length d 0)):w9 (.wire d 0) μ Q:=by
 have e:sw (μ++[.wire d 0]) μ.length d 0=μ++[.wire d 0]:=IW fw
 exact qZ (e▸q)
theorem bA{x:aI}:μ.length<(μ++[x]).length:=by rw[TM];exact Nat.lt_succ_self _
theorem Pf{x:aI}{y:D}(q:Q (.d y) μ):nJ μ Q (sw (μ++[x]) μ.length d p) y:=by
 have e:(sw (μ++[x]) μ.length d p).take μ.length=μ:=by
  rw[sw,List.set_append_right _ _ (TG _),List.take_left]
 unfold nJ
 rw[e];exact⟨id,q⟩
theorem Pl.start:Pl d 0 d:=⟨[],rfl,rfl⟩
theorem Br{f1 f3:Option V}{v:D}{x:aI}(hl:d.length<=lim)(h:Pl d p [13,10])(q:Q (.d v) μ):
  aA (n+10) (ej.body.drop 2) ⟨[f1,some (.loc μ.length),some (.d v),f3],[]⟩ (sw (μ++[x]) μ.length d p) (aR μ Q):=
 af bA (iw (t:=[13,10]) bA hl h (af bA (NQ bA hl (h.step (t:=[13,10])) (Pf q))))
theorem Aa{T:List UInt8}(hT:gr T):Reads (.tuple [.str [103,111,32,111,110],.str (codes T)]) ([43,32]++(T++[13,10])):=by
 intro n μ Q hl q
 have h1:=Pl.step (t:=[43,32]) (s:=T++[13,10]) Pl.start
 exact ig ⟨Nat.le_add_left ..,hl,AA (af bA (aU (t:=[43,32]) bA hl Pl.start (j6 bA hl h1 hT.tok hT.h1 hT.h2 ⟨TF rfl,Br (n:=n+49) hl h1.step q⟩)))⟩
theorem aJ{x:D}{B:List UInt8}(hUn:Un x B):Reads x ([42,32]++(B++[13,10])):=by
 intro n μ Q hl q
 have h1:=Pl.step (t:=[42,32]) (s:=B++[13,10]) Pl.start
 exact ig ⟨Nat.le_add_left ..,hl,AA (af bA (bp (t:=[43,32]) bA hl Pl.start (TF rfl) nofun (af bA (aU (t:=[42,32]) bA hl Pl.start (hUn (n:=n+9) bA hl h1 (Br (n:=n+49) hl h1.step q))))))⟩
end
section
variable{n:Nat}{μ:Mu}{Q:KV}{k:Nat}{d s t w:List UInt8}{p:Nat}{c:UInt8}{U:List Nat}
theorem MX{c:UInt8}(h:oh c.toNat=true):c.toNat<128:=by
 have h:=(Bool.and_eq_true_iff.mp h).1
 rcases(Bool.or_eq_true_iff.mp h)with h|h
 ·exact BA h
 ·exact Nat.lt_of_le_of_lt (Nat.le_of_eq (Int.ofNat.inj (of_decide_eq_true h))) (TF rfl)
theorem EE{tg w:List UInt8}{cd:D}{ct T:List UInt8}(hU:U∈bX)(hc:fH cd ct)(hg:∀c∈tg,oh c.toNat=true)(g0:tg≠[])(gh:tg.head?≠some 42/\tg.head?≠some 43)(hb:U≠[66,89,69]/\U≠[80,82,69,65,85,84,72])
  (hw:cq w U (32::(ct++(T++[13,10])))) (hT:gr T):Reads (.tuple [.str (ax U),.str (codes tg),cd,.str (codes T)]) (tg++32::(w++32::(ct++(T++[13,10])))):=by
 intro n μ Q hl q
 have e1:∀a,tg.head?≠some a->List.take 2 (tg++32::(w++32::(ct++(T++[13,10]))))≠[a,32]:=by
  intro a ha e
  obtain⟨c,t',rfl⟩:=List.exists_cons_of_ne_nil g0
  exact ha (congrArg some (List.cons.inj e).1)
 have hs:=Pl.step (t:=tg) (s:=32::(w++32::(ct++(T++[13,10])))) Pl.start
 exact ig ⟨Nat.le_add_left ..,hl,AA (af bA (bp (t:=[43,32]) bA hl Pl.start (TF rfl) (e1 43 gh.2) (af bA (bp (t:=[42,32]) bA hl Pl.start (TF rfl) (e1 42 gh.1)
  (af bA (iz Ga bA hl Pl.start ⟨hg,eK rfl⟩ g0 (fun c hc=>MX (hg c hc)) (af bA (cD bA hl hs (g6 bA hl hs.one hw.tok hw.ne hw.lt (NB hl hs.one hw
   (yM (n:=n+44) bA hl hU (.inr hb) hc hs.one.step hT.tok hT.h0 hT.h1 hT.h2 nofun (Br (n:=n+49) hl hs.one.step.one.step.step q))))))))))))⟩
end
end
section
variable{n:Nat}{μ:Mu}{Q:KV}{d s r l g body:List UInt8}{p b e:Nat}{c:UInt8}
theorem Pl.Rd(h:Pl d p s)(j:Nat):d[p+j]? =s[j]? :=by
 obtain⟨pre,rfl,rfl⟩:=h
 rw[List.getElem?_append_right (Nat.le_add_right ..),Nat.add_sub_cancel_left]
theorem uM{a b:Nat}(h:a=b+1):(a:Int)-1=(b:Int):=by omega
theorem Cm(m:Nat):((m+1:Nat):Int)-1=(m:Int):=by omega
theorem Oy{a b:Nat}(h:b<=a):¬(a:Int)<(b:Int):=fun e=>Nat.not_lt.mpr h (Int.ofNat_lt.mp e)
theorem Sq{c x:UInt8}(h:¬c=x):¬(c.toNat:Int)=(x.toNat:Int):=jC h
theorem Pc{I:Int}{Q:UInt8->Prop}(hI:I=(p:Int))(h:Pl d p (c::s))(hl:d.length<=lim)(q:Q c):0<=I/\w_ d I Q:=hI▸⟨Int.natCast_nonneg _,sU h hl q⟩
theorem QV{s:St}{ss:List St}{fr fr':Fr}{μ':Mu}{K:KS}(h:∀K:KS,K .next fr' μ'->eS n s fr μ K)(q:aA n ss fr' μ' K):aA n (s::ss) fr μ K:=h _ q
theorem Ma{b E I:Int}(hE:E-1=I)(q:aA n (ba.body.drop 1) ⟨[some (.bytes d),some (.int b),some (.int E),some (.int I),none,none,none],[]⟩ μ (aR μ Q)):ae (n+1) 48 [.bytes d,.int b,.int E] μ Q:=by
 subst hE
 exact kG (QV (fun K q=>q) q)
theorem OX{E I J:Int}{K:KS}(hI:I=(p:Int))(hJ:I-1=J)(hl:d.length<=lim)(hb:b<=p)(h:Pl d p (125::r))(q:aA n (ba.body.drop 3) ⟨[some (.bytes d),some (.int (b:Int)),some (.int E),some (.int J),none,none,none],[]⟩ μ K):
  aA n (ba.body.drop 1) ⟨[some (.bytes d),some (.int (b:Int)),some (.int E),some (.int I),none,none,none],[]⟩ μ K:=by
 subst hJ
 exact ai (hI▸Oy hb) (Pc hI h hl q)
theorem Qw{E I J:Int}{K:KS}(hI:I=(p:Int))(hJ:I-1=J)(hl:d.length<=lim)(hb:b<=p)(h:Pl d p (43::r))(q:aA n (ba.body.drop 5) ⟨[some (.bytes d),some (.int (b:Int)),some (.int E),some (.int J),some (.bool false),none,none],[]⟩ μ K):
  aA n (ba.body.drop 3) ⟨[some (.bytes d),some (.int (b:Int)),some (.int E),some (.int I),none,none,none],[]⟩ μ K:=by
 subst hJ
 exact ai (hI▸Oy hb) (Pc hI h hl q)
theorem EH(hl:d.length<=lim)(h:Pl d b (l++r))(he:l.getLast?≠some 125)(hee:e=b+l.length)(q:Q .none μ):ae (n+1) 48 [.bytes d,.int (b:Int),.int (e:Int)] μ Q:=by
 rcases List.eq_nil_or_concat l with rfl|⟨l',c,rfl⟩
 ·exact kG (ak (show(e:Int)-1<(b:Int) by rw[hee];exact Int.sub_lt_self _ Int.one_pos) (ab q))
 ·rw[List.concat_eq_append] at h he hee
  have hp:Pl d (b+l'.length) (c::r):=by rw[TP] at h;exact h.step
  exact Ma (uM (a:=e) (b:=b+l'.length) (hee.trans (congrArg (b+·) TM))) (ai (Oy (Nat.le_add_right ..)) ⟨Int.natCast_nonneg _,sU hp hl (ak (Sq (x:=125) fun e=>he (by rw[e];exact List.getLast?_concat)) (ab q))⟩)
theorem Gz{j:Nat}(h:Pl d p (123::(g++r)))(hj:j<g.length):d[p+(j+1)]? =some g[j]:=by rw[h.Rd,List.getElem?_cons_succ,List.getElem?_append_left hj,List.getElem?_eq_getElem hj]
theorem BP{v2 v4 v5 v6:Option V}{Q:KS}(hl:d.length<=lim)(hb:b<=p)(h:Pl d p (123::(g++r)))(hg:dJ g)(q:Q .next ⟨[some (.bytes d),some (.int (b:Int)),v2,some (.int (p:Int)),v4,v5,v6],[]⟩ μ):∀j:Nat,j<=g.length->
  vg (n+1) (ba.at 6) ⟨[some (.bytes d),some (.int (b:Int)),v2,some (.int ((p+j:Nat):Int)),v4,v5,v6],[]⟩ μ Q
 |0,hj=>aD (ak (cN hb) ⟨Int.natCast_nonneg _,sU h hl (cu q)⟩)
 |j+1,hj=>by
  have hJ:((p+(j+1):Nat):Int)-1=((p+j:Nat):Int):=Cm (p+j)
  have go:=BP hl hb h hg q j (Nat.le_of_succ_le hj)
  have hbi:(b:Int)<=((p+(j+1):Nat):Int):=cN (Ta hb (Nat.le_add_right ..))
  have at_ {Q:UInt8->Prop} (q:Q g[j]):0<=((p+(j+1):Nat):Int)/\w_ d ((p+(j+1):Nat):Int) Q:=⟨Int.natCast_nonneg _,ah (Gz h hj) hl q⟩
  generalize ((p+(j+1):Nat):Int)=I at hJ hbi at_
  rw[<-hJ] at go
  exact aD (ak hbi (at_ (cu (aW (hg _ (List.getElem_mem hj)) go))))
theorem EM{plus:List UInt8}(hl:d.length<=lim)(hg:dJ g)(g0:g≠[])(g9:g.length<=10)(hplus:plus=[]\/plus=[43])
  (h:Pl d b (l++123::(g++(plus++125::r)))) (hee:e=b+(l.length+g.length+plus.length+2)) (q:∀w,Q (.d (.tuple [.int (numOf g:Nat),.bool w])) μ):ae (n+2) 48 [.bytes d,.int (b:Int),.int (e:Int)] μ Q:=by
 have gl:0<g.length:=List.length_pos_iff.mpr g0
 have h1:Pl d (b+l.length) (123::(g++(plus++125::r))):=h.step
 have bl:b<=b+l.length:=Nat.le_add_right ..
 rw[Nat.add_assoc l.length,Nat.add_assoc l.length,<-Nat.add_assoc b] at hee
 generalize b+l.length=P at h1 bl hee
 obtain⟨c0,h2,hfig⟩:∃c0,d[P+g.length]? =some c0/\cH c0.toNat=true:=by
  have hj:g.length-1<g.length:=Nat.sub_one_lt_of_lt gl
  exact⟨_,by have c:=Gz h1 hj;rwa [Nat.sub_add_cancel gl] at c,hg _ (List.getElem_mem hj)⟩
 have c2:cut d (some (((P+1:Nat):Int))) (some ((P+g.length+1:Nat):Int))=g:=by have c:=h1.one.cut;rwa [Nat.add_right_comm] at c
 have fin (w:Bool):aA (n+1) (ba.body.drop 5) ⟨[some (.bytes d),some (.int (b:Int)),some (.int (e:Int)),some (.int ((P+g.length:Nat):Int)),some (.bool w),none,none],[]⟩ μ (aR μ Q):=by
  refine BP hl bl h1 hg ⟨hl,?_⟩ g.length (TG _)
  show aA _ _ ⟨[_,_,_,_,_,_,some (.bytes (cut d (some ((P+1:Nat):Int)) (some ((P+g.length+1:Nat):Int))))],_⟩ _ _
  rw[c2]
  exact ai (Oy bl) ⟨Int.natCast_nonneg _,sU h1 hl ⟨Ta g9 (TF rfl),ak (il gl) (ak (cN g9) (ck (Ta g9 (TF rfl)) hg ⟨TF rfl,ab (q w)⟩))⟩⟩
 have bg:b<=P+g.length:=Ta bl (Nat.le_add_right ..)
 rcases hplus with rfl|rfl
 ·have hz:Pl d (P+g.length+1) (125::r):=by have c:=h1.one.step;rwa [Nat.add_right_comm] at c
  have i7:¬(c0.toNat:Int)=((43:UInt8).toNat:Int):=Sq fun e=>by rw[e] at hfig;cases hfig
  exact Ma (uM hee) (OX rfl (Cm _) hl (Nat.le_succ_of_le bg) hz (ai (Oy bg) ⟨Int.natCast_nonneg _,ah h2 hl (ak i7 (fin _))⟩))
 ·have hz:Pl d (P+g.length+1) (43::125::r):=by have c:=h1.one.step;rwa [Nat.add_right_comm] at c
  exact Ma (uM hee) (OX rfl (Cm _) hl (Nat.le_succ_of_le (Nat.le_succ_of_le bg)) hz.one (Qw rfl (Cm _) hl (Nat.le_succ_of_le bg) hz (fin false)))
end
section
inductive Frag:List UInt8->Prop
 |nil:Frag []
 |chr (c s):c≠13->Frag s->Frag (c::s)
 |lit (g plus body s:List UInt8):dJ g->g≠[]->g.length<=10->numOf g=body.length->(plus=[]\/plus=[43])->Frag s->Frag (123::(g++(plus++(125::13::10::(body++s)))))
theorem Frag.app{a b:List UInt8}(ha:Frag a)(hb:Frag b):Frag (a++b):=by
 induction ha with
 |nil=>exact hb
 |chr c s h _ ih=>exact .chr c _ h ih
 |lit g plus body s h1 h2 h3 h4 h5 _ ih=>
  have:=Frag.lit g plus body _ h1 h2 h3 h4 h5 ih
  rw[List.cons_append,TP g,TP plus]
  rw[<-TP body] at this
  exact this
theorem Frag.plain{s:List UInt8}(h:∀c∈s,c≠13):Frag s:=by
 induction s with
 |nil=>exact .nil
 |cons c s ih=>exact .chr c s (h c (.head _)) (ih fun x hx=>h x (.tail _ hx))
theorem ix(r:List UInt8):∀(l:List UInt8) (i:Nat),(∀c∈l,c≠13)->bV 13 10 (l++13::10::r) i=some (i+l.length)
 |[],i,_=>rfl
 |c::l,i,h=>by
  have ih:=ix r l (i+1) fun x hx=>h x (.tail _ hx)
  have hc:∀c' t,bV 13 10 (c::c'::t) i=bV 13 10 (c'::t) (i+1):=fun c' t=>if_neg fun e=>h c (.head _) e.1
  rw[Nat.add_right_comm] at ih
  cases l with
  |nil=>exact(hc _ _).trans ih
  |cons c' l=>exact(hc _ _).trans ih
section
variable{n:Nat}{μ:Mu}{Q:KV}{d s r l g body:List UInt8}{p b e:Nat}{c:UInt8}
noncomputable abbrev Pb:St:=ew.at 1
theorem Ke{F:Nat}(hl:d.length<=lim)(hp:p<=d.length)(hf:bV 13 10 (d.drop p) p=some F){K:KV}(q:K (.int F) μ):NU d K [.bytes [13,10],.int (p:Int)] μ:=by
 refine⟨Int.natCast_nonneg _,hp,hl,?_⟩
 show K (.int (match bV 13 10 (d.drop p) p with|some k=>(k:Int)|none=> -1)) μ
 rw[hf];exact q
theorem BY{F:Nat}{v1 v3 v4:Option V}{Q:KS}(hl:d.length<=lim)(hp:p<=d.length)(hf:bV 13 10 (d.drop p) p=some F)
  (q:ae (n+2) 48 [.bytes d,.int (p:Int),.int (F:Int)] μ (FY (eA (n+2) (.lv 4)) ⟨[some (.bytes d),v1,some (.int (p:Int)),some (.int (F:Int)),v4],[]⟩ (Az (aA (n+2) (Pb.wb.drop 3)) (QG (n+2) Pb.wt Pb.wb Q)))):
  vg (n+2) Pb ⟨[some (.bytes d),v1,some (.int (p:Int)),v3,v4],[]⟩ μ Q:=by
 exact aD (Ke hl hp hf q)
theorem Hr(hl:∀c∈l,c≠13)(hg:dJ g){plus:List UInt8}(hp:plus=[]\/plus=[43]):∀c∈l++123::(g++(plus++[125])),c≠13:=by
 intro c hc
 rcases List.mem_append.mp hc with hc|hc
 ·exact hl c hc
 cases hc with
 |head=>exact nofun
 |tail _ hc=>
  rcases List.mem_append.mp hc with hc|hc
  ·exact fun e=>by have:=hg c hc;rw[e] at this;cases this
  ·rcases hp with rfl|rfl
   ·exact fun e=>by rw[e] at hc;cases hc with|tail _ hc=>cases hc
   ·exact fun e=>by rw[e] at hc;cases hc with|tail _ hc=>cases hc with|tail _ hc=>cases hc
theorem KU{Q:KS}(hl:d.length<=lim)(hF:Frag s):∀(l:List UInt8) (v1 v3 v4:Option V) {p:Nat},(∀c∈l,c≠13)->(l++s).getLast?≠some 125->Pl d p (l++(s++13::10::r))->
  (∀fr,Q (.ret (.d (.tuple [.int ((p+(l.length+s.length)+2:Nat):Int),.none]))) fr μ)->vg (n+2) Pb ⟨[some (.bytes d),v1,some (.int (p:Int)),v3,v4],[]⟩ μ Q:=by
 induction hF with
 |nil=>
  intro l v1 v3 v4 p hc he h q
  have hf:bV 13 10 (d.drop p) p=some (p+l.length):=by rw[h.drop];exact ix r l p hc
  exact BY hl h.le hf (EH hl h (List.append_nil l▸he) rfl ⟨TF rfl,q _⟩)
 |chr c s hc hF ih=>
  intro l v1 v3 v4 p hl' he h q
  refine ih (l++[c]) v1 v3 v4 (fun x hx=>(List.mem_append.mp hx).elim (hl' x) fun h=>List.eq_of_mem_singleton h▸hc) (List.append_cons l c s▸he) (by rw[TP];exact h) ?_
  rw[<-TM,TP,TM]
  exact q
 |lit g plus body s h1 h2 h3 h4 h5 hF ih=>
  intro l v1 v3 v4 p hl' he h q
  have hp2:Pl d p ((l++123::(g++(plus++[125])))++13::10::(body++(s++13::10::r))):=by
   rw[TP,List.cons_append,TP g,TP plus]
   rw[List.cons_append,TP g,TP plus] at h
   exact TP body s _▸h
  have hm:(l++123::(g++(plus++[125]))).length=l.length+g.length+plus.length+2:=by simp;omega
  have hp3:=hp2.step.one.one.step
  have hlen:=hp2.step.one.one.len
  have hz:(p+(l++123::(g++(plus++[125]))).length+1+1+body.length)+(([]:List UInt8).length+s.length)+2=p+(l.length+(123::(g++(plus++(125::13::10::(body++s))))).length)+2:=by simp;omega
  have hf:bV 13 10 (d.drop p) p=some (p+(l++123::(g++(plus++[125]))).length):=by rw[hp2.drop,ix _ _ p (Hr hl' h1 h5)]
  have hpa:Pl d p (l++123::(g++(plus++125::(13::10::(body++(s++13::10::r)))))):=by
   rw[TP,List.cons_append,TP g,TP plus] at hp2;exact hp2
  have hF0:=congrArg (p+·) hm
  rw[<-hz] at q
  generalize p+(l++123::(g++(plus++[125]))).length=F at hp3 q hz hf hlen hF0
  have e2:¬((F+1+1:Nat):Int)=(d.length:Int):=by rw[TM,TM,List.length_cons] at hlen;omega
  have e4:¬((F+1+1:Nat):Int)+(body.length:Nat)>(d.length:Int):=Int.not_lt.mpr (cN hp3.le)
  have hs:([]++s).getLast?≠some 125:=fun e=>he (by
   rw[show l++123::(g++(plus++(125::13::10::(body++s))))=(l++123::(g++(plus++(125::13::10::body))))++s by simp,List.getLast?_append,show s.getLast?=_ from e];rfl)
  exact BY hl h.le hf (EM hl h1 h2 h3 h5 hpa hF0 fun w=>by rw[h4];exact⟨hl,ai e2 (ah (a:=0) rfl (TF rfl) ⟨hl,ai e4 (ih [] v1 _ _ nofun hs hp3 q)⟩)⟩)
theorem tu(hl:d.length<=lim)(hF:Frag s)(he:s.getLast?≠some 125)(h:Pl d p (s++13::10::r))(q:Q (.d (.tuple [.int ((p+(s.length+2):Nat):Int),.none])) μ):ae (n+3) 49 [.bytes d,.int (p:Int)] μ Q:=by
 refine l0 (KU hl hF [] _ _ _ nofun he h (fun fr=>ab ?_))
 rw[show p+(([]:List UInt8).length+s.length)+2=p+(s.length+2) by rw[List.length_nil];omega]
 exact q
theorem qx(hl:d.length<=lim)(h:Pl d p [])(q:Q (.d (.tuple [.int (-1),.none])) μ):ae (n+3) 49 [.bytes d,.int (p:Int)] μ Q:=by
 refine l0 (aD ⟨Int.natCast_nonneg _,h.le,hl,?_⟩)
 have hd:bV 13 10 (List.drop (p:Int).toNat d) (p:Int).toNat=none:=by rw[show(p:Int).toNat=p from rfl,h.drop];rfl
 rw[hd]
 exact⟨TF rfl,ab q⟩
end
end
section
structure Piece(x:D)(t:List UInt8):Prop where
 reads:Reads x t
 fr:∃s,t=s++[13,10]/\Frag s/\s.getLast?≠some 125
noncomputable def m7(its:List (D×List UInt8)):List UInt8:=its.flatMap (·.2)
theorem ze(x:D×List UInt8)(r:List (D×List UInt8)):m7 (x::r)=x.2++m7 r:=rfl
noncomputable def endOf(l:List (D×List UInt8))(p:Nat):Int:=match l with
 |[]=> -1
 |x::_=>((p+x.2.length:Nat):Int)
section
variable{n:Nat}{μ:Mu}{Q:KV}{d s r l g body:List UInt8}{p b e:Nat}{c:UInt8}
theorem Ll{its:List (D×List UInt8)}(hl:d.length<=lim)(hi:∀x∈its,Piece x.1 x.2)(h:Pl d p (m7 its))(q:Q (.d (.tuple [.int (endOf its p),.none])) μ):ae (n+3) 49 [.bytes d,.int (p:Int)] μ Q:=by
 cases its with
 |nil=>exact qx hl h q
 |cons x r=>
  obtain⟨s,e,hf,he⟩:=(hi x (.head _)).fr
  rw[ze,e,TP] at h
  have q:Q (.d (.tuple [.int ((p+x.2.length:Nat):Int),.none])) μ:=q
  rw[e,TM] at q
  exact tu hl hf he h q
noncomputable abbrev Tr:St:=dR.at 3
theorem qL{Q:KS}(hl:d.length<=lim):∀(its:List (D×List UInt8)) (acc:List D) {p:Nat},(∀x∈its,Piece x.1 x.2)->Pl d p (m7 its)->acc.length+its.length<=lim->
  Q .next ⟨[some (.bytes d),some (.loc μ.length),some (.int (d.length:Int)),some (.int (-1))],[]⟩ (μ++[.list (acc++its.map (·.1))])->
  vg (n+61) Tr ⟨[some (.bytes d),some (.loc μ.length),some (.int (p:Int)),some (.int (endOf its p))],[]⟩ (μ++[.list acc]) Q
 |[],acc,p,hi,h,hz,q=>by
  rw[show d.length=p from h.len] at q
  exact aD (List.append_nil acc▸q)
 |(x,t)::its,acc,p,hi,h,hz,q=>by
  have ht:=hi (x,t) (.head _)
  have hz2:acc.length<lim:=Nat.lt_of_lt_of_le (Nat.lt_add_of_pos_right (Nat.zero_lt_succ _)) hz
  have hz3:(acc++[x]).length+its.length<=lim:=by rw[TM,Nat.add_assoc,Nat.add_comm [x].length];exact hz
  rw[List.map_cons,List.append_cons acc] at q
  have rd:∀K:KV,K (.d x) (μ++[.list acc])->ae (n+61) 81 [.bytes (cut d (some (p:Int)) (some ((p+t.length:Nat):Int)))] (μ++[.list acc]) K:=fun K q=>by
   rw[h.cut];exact ht.reads (Ta h.zK hl) q
  exact aD (mj ⟨hl,rd _ (mj ⟨hz2,wD (Ll hl (fun y hy=>hi y (.tail _ hy)) h.step (ah (a:=0) rfl (TF rfl)
   (qL hl its (acc++[x]) (fun y hy=>hi y (.tail _ hy)) h.step hz3 q)))⟩)⟩)
theorem K5:cut d (some (d.length:Int)) none=[]:=by
 have e1:clip (d.length:Int) d.length=d.length:=by simp only[clip];split<;>omega
 simp only[cut,pf,rY,e1,List.take_length,List.drop_length]
theorem kL{its:List (D×List UInt8)}(hl:(m7 its).length<=lim)(hi:∀x∈its,Piece x.1 x.2)(hz:its.length<=lim)(q:Q (.d (.tuple [.list (its.map (·.1)),.bytes []])) μ):ae (n+62) 82 [.bytes (m7 its)] μ Q:=by
 generalize hd:m7 its=d at hl⊢
 have hp:Pl d 0 (m7 its):=hd▸Pl.start
 refine sb ⟨Nat.zero_le _,qZ (Ll (p:=0) hl hi hp (ah (a:=0) rfl (TF rfl) (qL (p:=0) hl its [] hi hp (Nat.zero_add _▸hz) ⟨hl,?_⟩)))⟩
 show QH _ [_,.bytes (cut d (some (d.length:Int)) none)] _
 rw[K5]
 exact⟨TF rfl,_,⟨_,_,⟨TG _,its.map (·.1),fw,rfl⟩,⟨_,_,rfl,rfl,rfl⟩,rfl⟩,iY q⟩
end
end
noncomputable abbrev dE:List Nat:=[97,116,111,109]
inductive Tells:Nat->D->D->Prop
 |atom (r t):Tells r (.atom t) (.tuple [.str dE,.str t])
 |none (r):Tells r .none .none
 |bool (r b):Tells r (.bool b) (.bool b)
 |int (r i):Tells r (.int i) (.int i)
 |str (r l):Tells r (.str l) (.str l)
 |bytes (r l):Tells r (.bytes l) (.bytes l)
 |list (r) (its:List (D×D)):(∀x,x∈its->Tells r x.1 x.2)->its.length<=lim->Tells (r+1) (.list (its.map (·.1))) (.tuple (its.map (·.2)))
 |tuple (r) (its:List (D×D)):(∀x,x∈its->Tells r x.1 x.2)->its.length<=lim->Tells (r+1) (.tuple (its.map (·.1))) (.tuple (its.map (·.2)))
section
theorem yY{r:Nat}{x y:D}(h:Tells r x y):∀{n:Nat} {μ:Mu} {Q:KV},Q (.d y) μ->ae (n+r+2) 50 [.d x] μ Q:=by
 induction h with
 |atom r t=>exact fun{n μ Q} q=>gS ⟨TF rfl,TF rfl,ab q⟩
 |list r its hi hz ih=>exact fun{n μ Q} q=>gS ⟨TF rfl,id_map hz (aQ (fun x:D×D=>x.2) rfl hz (fun c hc K hK=>ih c hc hK) ⟨by rw[TN];exact hz,ab q⟩)⟩
 |tuple r its hi hz ih=>exact fun{n μ Q} q=>gS ⟨TF rfl,id_map hz (aQ (fun x:D×D=>x.2) rfl hz (fun c hc K hK=>ih c hc hK) ⟨by rw[TN];exact hz,ab q⟩)⟩
 |_=>exact fun{n μ Q} q=>gS ⟨TF rfl,ab q⟩
theorem td{r:Nat}{x y:D}(h:Tells r x y){n:Nat}{μ:Mu}{Q:KV}(q:Q (.d y) μ):ae (n+r+3) 51 [.d x] μ Q:=sY (yY h (ab q))
end
section
noncomputable def bI(n:Nat):List UInt8:=aa (dec n)
theorem ur{n c:Nat}(h:c∈dec n):48<=c/\c<=57:=by
 obtain⟨a,ha,rfl⟩:=List.mem_map.mp h
 have:=Bool.and_eq_true_iff.mp (Nat.isDigit_of_mem_toDigits (by omega) (by omega) ha)
 exact⟨UInt32.le_iff_toNat_le.mp (of_decide_eq_true this.1),UInt32.le_iff_toNat_le.mp (of_decide_eq_true this.2)⟩
theorem L6(n:Nat):dec n≠[]:=fun e=>Nat.toDigits_ne_nil (List.map_eq_nil_iff.mp e)
theorem eC{n k:Nat}(hk:0<k)(h:n<10^k):(dec n).length<=k:=by
 rw[dec,TN]
 exact(Nat.length_toDigits_le_iff (by omega) hk).mpr h
theorem P0{a:Nat}(h:a<256):(UInt8.ofNat a).toNat=a:=UInt8.toNat_ofNat_of_lt' h
theorem qE{l:List Nat}(h:∀c∈l,c<256):codes (aa l)=l:=by
 induction l with
 |nil=>rfl
 |cons a l ih=>exact List.cons_eq_cons.mpr ⟨P0 (h a (.head _)),ih fun c hc=>h c (.tail _ hc)⟩
theorem sC(l:List UInt8):aa (codes l)=l:=by
 induction l with
 |nil=>rfl
 |cons a l ih=>exact List.cons_eq_cons.mpr ⟨UInt8.ofNat_toNat,ih⟩
theorem bH(n:Nat):dJ (bI n):=by
 intro c hc
 obtain⟨a,ha,rfl⟩:=List.mem_map.mp hc
 have:=ur ha
 rw[cH,P0 (Nat.lt_of_le_of_lt this.2 (TF rfl)),Bool.and_eq_true,decide_eq_true_eq,decide_eq_true_eq]
 exact⟨Int.ofNat_le.mpr this.1,Int.ofNat_le.mpr this.2⟩
theorem fe(n:Nat):bI n≠[]:=fun e=>L6 n (List.map_eq_nil_iff.mp e)
theorem iS{n k:Nat}(hk:0<k)(h:n<10^k):(bI n).length<=k:=by
 rw[bI,aa,TN];exact eC hk h
theorem tH:∀(l:List Char) (a:Nat),(∀c∈l,c.toNat<256)->(aa (l.map Char.toNat)).foldl (fun a c=>a*10+(c.toNat-48)) a=l.foldl (fun a c=>10*a+(c.toNat-'0'.toNat)) a
 |[],a,_=>rfl
 |c::l,a,h=>by
  have e:=tH l (10*a+(c.toNat-'0'.toNat)) fun x hx=>h x (.tail _ hx)
  have e2:a*10+((UInt8.ofNat c.toNat).toNat-48)=10*a+(c.toNat-'0'.toNat):=by rw[P0 (h c (.head _)),Nat.mul_comm];rfl
  exact(congrArg (fun b=>List.foldl (fun a (c:UInt8)=>a*10+(c.toNat-48)) b (aa (l.map Char.toNat))) e2).trans e
theorem dec_lt{n c:Nat}(h:c∈dec n):c<128:=Nat.lt_of_le_of_lt (ur h).2 (TF rfl)
theorem fg(n:Nat):numOf (bI n)=n:=
 (tH _ 0 fun c hc=>Nat.lt_trans (dec_lt (List.mem_map.mpr ⟨c,hc,rfl⟩)) (TF rfl)).trans (Nat.ofDigitChars_toDigits (by omega) (by omega))
theorem Dq(m:Nat)(l:List UInt8):numOf (List.replicate m 48++l)=numOf l:=by
 induction m with
 |zero=>rfl
 |succ m ih=>exact ih
section
variable{n:Nat}{μ:Mu}{Q:KV}{l:List UInt8}
theorem nB{m:Nat}(hm:m<10^90)(q:Q (.bytes (bI m)) μ):ae (n+2) 22 [.int (m:Int)] μ Q:=
 have e2:(m:Int)<10^100:=Int.lt_of_lt_of_le (Int.ofNat_lt.mpr hm) (Int.ofNat_le.mpr (Nat.pow_le_pow_right (Nat.zero_lt_succ 9) (TF rfl)))
 wM ⟨Int.natCast_nonneg _,e2,aP (Ta (eC (Nat.zero_lt_succ 89) hm) (TF rfl)) (fun c hc=>dec_lt hc) (ab q)⟩
noncomputable def isQ(l:List UInt8):Bool:=decide ((l.length:Int)<=72)&&(l.map fun c=>cU c.toNat).all id
theorem lT(hl:l.length<=lim)(q:Q (.bool (isQ l)) μ):ae (n+1) 42 [.bytes l] μ Q:=by
 by_cases h:(l.length:Int)<=72
 ·rw[isQ,decide_eq_true h,Bool.true_and] at q
  exact lN ⟨hl,ak h (id_map hl (aQ (fun c:UInt8=>D.bool (cU c.toNat)) rfl hl (fun c hc K hK=>Ht (Q:=fun b=>K (.bool b) μ) hK) (dA (fY (fun c:UInt8=>cU c.toNat) l) ⟨by rw[TN];exact hl,ab q⟩)))⟩
 ·rw[isQ,decide_eq_false h,Bool.false_and] at q
  exact lN ⟨hl,ai h (ab q)⟩
end
end
section
theorem bz{a:Nat}(h:a<=20000):a<=lim:=Ta h (TF rfl)
section
variable{n:Nat}{μ:Mu}{Q:KV}{l:List UInt8}
theorem tJ{acc:List UInt8}{c:UInt8}(hz:acc.length<lim)(q:Q .none (μ++[.eX (acc++[c])])):Jk μ.length Q [oc c] (μ++[.eX acc]):=mj (LL hz (wD q))
theorem vA{v0:Option V}{Q:KS}:∀(l acc:List UInt8) (v2:Option V),acc.length+2*l.length<lim->(∀v2',Q .next ⟨[v0,some (.loc μ.length),v2'],[]⟩ (μ++[.eX (acc++jw l)]))->
  wF n (.lv 2) (l.map oc) none (bT.at 1).wb ⟨[v0,some (.loc μ.length),v2],[]⟩ (μ++[.eX acc]) Q
 |[],acc,v2,hz,q=>n8 ay (List.append_nil acc▸q v2)
 |c::l,acc,v2,hz,q=>by
  rw[List.length_cons] at hz
  have hz1:acc.length<lim:=by omega
  refine kM ay ?_
  by_cases h:c=34\/c=92
  ·rw[G7 h,List.append_cons acc,List.append_cons (acc++[92])] at q
   have hz2:(acc++[92]).length<lim:=by rw[TM];exact(show acc.length+1<lim by omega)
   have ih:=vA (v0:=v0) (Q:=Q) l (acc++[92]++[c]) (some (oc c)) (by rw[TM,TM];exact(show acc.length+1+1+_<_ by omega)) q
   have go:aA n ((bT.at 1).wb.drop 1) ⟨[v0,some (.loc μ.length),some (oc c)],[]⟩ (μ++[.eX (acc++[92])]) (RP n (.lv 2) (l.map oc) none (bT.at 1).wb Q):=mj (tJ hz2 ih)
   rcases h with rfl|rfl
   ·exact mj (tJ (c:=92) hz1 go)
   ·exact mj (tJ (c:=92) hz1 go)
  ·rw[DD h,List.append_cons acc] at q
   have ih:=vA (v0:=v0) (Q:=Q) l (acc++[c]) (some (oc c)) (by rw[TM];exact(show acc.length+1+_<_ by omega)) q
   exact ai (jC (x:=34) fun e=>h (.inl e)) (ai (jC (x:=92) fun e=>h (.inr e)) (mj (tJ hz1 ih)))
theorem rr(l:List UInt8):(jw l).length<=2*l.length:=by
 induction l with
 |nil=>exact TG _
 |cons a l ih=>
  by_cases h:a=34\/a=92
  ·rw[G7 h];exact Nat.add_le_add_right ih 2
  ·rw[DD h];exact Nat.le_succ_of_le (Nat.add_le_add_right ih 1)
theorem jI(hl:l.length<=1000)(q:Q (.bytes (34::(jw l++[34]))) μ):ae (n+1) 43 [.bytes l] μ Q:=by
 have h2:=rr l
 have hz3:([34]++jw l).length<lim:=Nat.lt_of_lt_of_le (show(jw l).length+1<20000 by omega) (TF rfl)
 have hz4:([34]++jw l++[34]).length<=lim:=bz (by rw[TM];exact(show(jw l).length+1+1<=20000 by omega))
 refine pH ⟨TF rfl,qZ (id_map (bz (Ta hl (by decide))) ?_)⟩
 rw[List.map_map]
 exact vA l [34] none (Nat.lt_of_lt_of_le (show 1+2*l.length<20000 by omega) (TF rfl)) (fun v2'=>mj (tJ (c:=34) hz3 (mj ⟨hz4,iY q⟩)))
noncomputable def kd(l:List UInt8):List UInt8:=123::(bI l.length++(125::13::10::l))
theorem iM(hl:l.length<=1000)(q:Q (.bytes (kd l)) μ):ae (n+3) 44 [.bytes l,.bool false] μ Q:=by
 have hl1:l.length<=lim:=bz (Ta hl (by decide))
 have hd:(bI l.length).length<=4:=iS (by decide) (Nat.lt_of_le_of_lt hl (by decide))
 have e:[123]++bI l.length++[125]++[13,10]++l=kd l:=by rw[TP,TP,TP];rfl
 rw[<-e] at q
 refine nG ⟨hl1,nB (Nat.lt_of_le_of_lt hl (TF rfl)) ⟨bz ?_,bz ?_,bz ?_,hl1,bz ?_,ab q⟩⟩
 all_goals simp only[TM,List.length_cons,List.length_nil];omega
noncomputable def md(l:List UInt8):List UInt8:=cond (isQ l) (34::(jw l++[34])) (kd l)
theorem E7(h:isQ l=true):md l=34::(jw l++[34]):=by rw[md,h];rfl
theorem Ih(h:isQ l=false):md l=kd l:=by rw[md,h];rfl
theorem pF(hl:l.length<=1000)(q:Q (.bytes (md l)) μ):ae (n+4) 45 [.bytes l,.bool false] μ Q:=by
 refine pM (lT (bz (Ta hl (by decide))) ?_)
 cases h:isQ l with
 |true=>exact jI hl (ab (E7 h▸q))
 |false=>exact iM hl (ab (Ih h▸q))
theorem og(hl:l.length<=1000)(q:Q (.bytes (md l)) μ):ae (n+4) 45 [.bytes l] μ Q:=by
 refine nV (lT (bz (Ta hl (by decide))) ?_)
 cases h:isQ l with
 |true=>exact jI hl (ab (E7 h▸q))
 |false=>exact iM hl (ab (Ih h▸q))
end
end
section
variable{n:Nat}{μ:Mu}{Q:KV}{l:List UInt8}
noncomputable abbrev NW(l:List UInt8):Bool:=(l.map fun c=>ez c.toNat).all id
noncomputable def Aw(l:List UInt8):Bool:=decide ((0:Int)<l.length)&&(decide ((l.length:Int)<=72)&&(decide (l.map eH≠pI)&&NW l))
noncomputable def mQ(l:List UInt8):List UInt8:=cond (Aw l) l (md l)
theorem ou(hl:l.length<=1000)(q:Q (.bytes (mQ l)) μ):ae (n+5) 46 [.bytes l] μ Q:=by
 have hl1:l.length<=lim:=bz (Ta hl (by decide))
 refine mX ⟨hl1,?_⟩
 have str (hb:Aw l=false):aA (n+4) (b9.body.drop 1) ⟨[some (.bytes l),some (.bool false)],[]⟩ μ (aR μ Q):=by
  rw[mQ,hb] at q
  exact pF hl (ab q)
 by_cases h1:(0:Int)<l.length
 ·by_cases h2:(l.length:Int)<=72
  ·by_cases h3:l.map eH≠pI
   ·refine ak h1 (ak h2 (wB hl1 (ak h3 (id_map hl1 (aQ (fun c:UInt8=>D.bool (ez c.toNat)) rfl hl1 (fun c hc K hK=>eu (lL c).1 (lL c).2 hK) (dA (fY (fun c:UInt8=>ez c.toNat) l) ⟨by rw[TN];exact hl1,?_⟩))))))
    have hb:Aw l=NW l:=by rw[Aw,decide_eq_true h1,decide_eq_true h2,decide_eq_true h3];rfl
    cases h4:NW l with
    |true=>exact aW h4 ⟨hl1,ab (by rw[mQ,hb,h4] at q;exact q)⟩
    |false=>exact aZ h4 (str (hb.trans h4))
   ·exact ak h1 (ak h2 (wB hl1 (ai h3 (str (by rw[Aw,decide_eq_false h3,Bool.false_and,Bool.and_false,Bool.and_false])))))
  ·exact ak h1 (ai h2 (str (by rw[Aw,decide_eq_false h2,Bool.false_and,Bool.and_false])))
 ·exact ai h1 (str (by rw[Aw,decide_eq_false h1,Bool.false_and]))
theorem xo{l:List UInt8}{Q:KS}(hl:l.length<=1000):∀(r acc:List UInt8) (v3:Option V) {p:Nat},Pl l p r->(∀c∈r,gy c)->acc.length+r.length<=1000->
  (∀v3',Q .next ⟨[some (.str (codes l)),some (.loc μ.length),some (.int (l.length:Int)),v3',none],[]⟩ (μ++[.eX (acc++r)]))->
  vg (n+1) (el.at 2) ⟨[some (.str (codes l)),some (.loc μ.length),some (.int (p:Int)),v3,none],[]⟩ (μ++[.eX acc]) Q
 |[],acc,v3,p,h,hp,hz,q=>by
  have hl1:(codes l).length<=lim:=cP l▸bz (Ta hl (by decide))
  rw[show l.length=p from h.len] at q
  exact aD ⟨hl1,ai (cP l▸h.end) (List.append_nil acc▸q v3)⟩
 |c::r,acc,v3,p,h,hp,hz,q=>by
  have hl1:(codes l).length<=lim:=cP l▸bz (Ta hl (by decide))
  have hg:(codes l)[p]? =some c.toNat:=List.getElem?_map.trans (congrArg (Option.map _) h.get)
  have hi:(p:Int)<((codes l).length:Int):=cP l▸h.Np
  obtain⟨a,b⟩:=hp c (.head _)
  rw[List.length_cons] at hz
  have hz2:acc.length<lim:=Nat.lt_of_lt_of_le (show acc.length<20000 by omega) (TF rfl)
  rw[List.append_cons acc] at q
  exact aD ⟨hl1,ak hi (ah hg hl1 (jD (aW a (mj (tJ hz2 (ai (jC (x:=38) b) (xo hl r (acc++[c]) (some (oc c)) h.one (fun x hx=>hp x (.tail _ hx)) (by rw[TM];exact(show acc.length+1+_<=_ by omega)) q)))))))⟩
theorem s6(hl:l.length<=1000)(hp:∀c∈l,gy c)(q:Q (.bytes l) μ):ae (n+2) 1 [.str (codes l)] μ Q:=
 sX (qZ (xo (p:=0) hl l [] none Pl.start hp (Nat.zero_add _▸hl) (fun v3'=>mj ⟨bz (Ta hl (by decide)),iY q⟩)))
theorem lZ(hl:l.length<=1000)(hp:∀c∈l,gy c)(q:Q (.bytes (mQ l)) μ):ae (n+6) 53 [.str (codes l)] μ Q:=
 sO (s6 hl hp (ou hl (ab q)))
end
theorem lq{α:Type}{s x:List α}:∀{L:List (List α)},x∈L->x.length<=(aq s L).length
 |[a],h=>List.eq_of_mem_singleton h▸TG _
 |a::b::r,h=>by
  have e:(aq s (a::b::r)).length=a.length+s.length+(aq s (b::r)).length:=by rw[aq,TM,TM]
  rw[e]
  rcases List.mem_cons.mp h with rfl|h
  ·exact Ta (Nat.le_add_right ..) (Nat.le_add_right ..)
  ·exact Ta (lq h) (Nat.le_add_left ..)
theorem ju{α:Type}(s x:List α)(L:List (List α)):aq s (x::L)=x++L.flatMap (s++·):=by
 induction L generalizing x with
 |nil=>exact(List.append_nil _).symm
 |cons b r ih=>rw[aq,ih,List.flatMap_cons,TP,TP]
noncomputable def ar(L:List (List UInt8)):List UInt8:=40::(aq [32] L++[41])
theorem gj(its:List (D×List UInt8)):aF its=ar (its.map (·.2)):=by
 cases its with
 |nil=>rfl
 |cons x r=>rw[aF,ar,List.map_cons,ju,aN,List.flatMap_map,TP];rfl
inductive sG:Nat->D->List UInt8->Prop
 |none (r):sG r .none [78,73,76]
 |atom (r t):(∀c∈t,c<128)->t.length<=1000->sG r (.atom t) (aa t)
 |bytes (r l):l.length<=1000->sG r (.bytes l) (md l)
 |int (r) (m:Nat):m<10^90->sG r (.int m) (bI m)
 |list (r) (its:List (D×List UInt8)):(∀x,x∈its->sG r x.1 x.2)->its.length<=lim->sG (r+1) (.list (its.map (·.1))) (ar (its.map (·.2)))
theorem iU(L:List (List UInt8)):(ar L).length=(aq [32] L).length+2:=by rw[ar,List.length_cons,TM];rfl
section
theorem ya{α:Type}{μ:Mu}{Q:KV}{l:List α}{f:α->List UInt8}(hl:(ar (l.map f)).length<=lim)(q:Q (.bytes (ar (l.map f))) μ):on (me (l.map fun x=>D.bytes (f x))) fun r=>(aq [32] r).length<=lim/\([40]:List UInt8).length+(aq [32] r).length<=lim/\([40]++aq [32] r).length+([41]:List UInt8).length<=lim/\Q (.bytes ([40]++aq [32] r++[41])) μ:=by
 rw[iU] at hl
 exact dA (bP f l) ⟨Nat.le_of_succ_le (Nat.le_of_succ_le hl),Nat.add_comm .. ▸Nat.le_of_succ_le hl,hl,q⟩
theorem hV{r:Nat}{x:D}{t:List UInt8}(h:sG r x t):∀{n dep:Nat} {args:List V} {μ:Mu} {Q:KV},dep+r<=29->t.length<=lim->dc.full args=some [.d x,.int (dep:Int)]->Q (.bytes t) μ->ae (n+r+6) 47 args μ Q:=by
 induction h with
 |none r=>exact fun{n dep args μ Q} hd hl ha q=>fA bW ha (iY q)
 |atom r t h1 h2=>exact fun{n dep args μ Q} hd hl ha q=>fA bW ha (aP (bz (Ta h2 (by decide))) h1 (iY q))
 |bytes r l h1=>exact fun{n dep args μ Q} hd hl ha q=>fA bW ha (og h1 (iY q))
 |int r m h1=>exact fun{n dep args μ Q} hd hl ha q=>fA bW ha ⟨TF rfl,nB h1 (iY q)⟩
 |list r its hi hz ih=>
  intro n dep args μ Q hd hl ha q
  have hdep:¬(dep:Int)=30:=by omega
  refine fA bW ha ⟨TF rfl,mj (ai hdep (id_map hz (aQ (fun x:D×List UInt8=>D.bytes x.2) rfl hz (fun c hc K hK=>mj (ih c hc (dep:=dep+1) (by omega) ?_ rfl hK)) (ya (f:=fun x:D×List UInt8=>x.2) hl (iY q)))))⟩
  rw[iU] at hl
  exact Ta (lq (List.mem_map.mpr ⟨c,hc,rfl⟩)) (Nat.le_of_succ_le (Nat.le_of_succ_le hl))
end
section
theorem Dk{α:Type}{n:Nat}{elt:Ex}{i:Nat}{cs:List Nat}{μ:Mu}{g:Option (Nat×List D)}(hg:Ef g μ)(val:α->V)(out:α->D){vs0:List (Option V)}(hi:iE vs0 i=true)(l:List α):∀{vs:List (Option V)} {Q:KD},Var vs0 i vs->
  (∀x∈l,∀K:KV,K (.d (out x)) μ->eE n elt ⟨du vs0 i (val x),cs⟩ μ K)->Q (l.map out) μ->wC n elt (.lv i) [] (l.map val) g ⟨vs,cs⟩ μ Q:=by
 induction l with
 |nil=>exact fun hv h q=>fJ hg q
 |cons x l ih=>exact fun{vs Q} hv h q=>bZ hg (x9 hv hi (h x (.head _) _ (ih (Q:=fun ds=>Q (out x::ds)) (.set _) (fun y hy=>h y (.tail _ hy)) q)))
theorem nY{α:Type}(L:List (List α)):aq [] L=L.flatten:=by
 induction L with
 |nil=>rfl
 |cons a r ih=>cases r with
  |nil=>exact(List.append_nil a).symm
  |cons b r=>rw[aq,List.append_nil,ih];rfl
noncomputable def br(L:List (List Nat)):List UInt8:=L.flatMap fun t=>32::aa t
theorem DA(L:List (List Nat)):aq [] (L.map fun t=>[32]++aa t)=br L:=by
 rw[nY,br,List.flatMap_def];rfl
theorem aL(l:List Nat):(aa l).length=l.length:=TN _
section
variable{n:Nat}{μ:Mu}{Q:KV}{l:List UInt8}{L:List (List Nat)}
noncomputable abbrev Words(L:List (List Nat)):Prop:=∀t∈L,(∀c∈t,c<128)/\t.length<=1000
theorem iL{α:Type}{t:List α}(h:t.length<=1000):t.length<=lim:=bz (Ta h (by decide))
theorem yT{cs:List Nat}{f0:Option V}{t:List Nat}(ht:(∀c∈t,c<128)/\t.length<=1000)(K:KV)(hK:K (.d (.bytes ([32]++aa t))) μ):eE (n+1) (.bin .add (.const (.d (.bytes [32]))) (.call (.const (.fn 8)) [(.lv 1)])) ⟨[f0,some (.str t)],cs⟩ μ K:=
 aP (iL ht.2) ht.1 ⟨bz (by rw[aL];have:=ht.2;exact(show 1+t.length<=20000 by omega)),hK⟩
theorem BW(hl:(br L).length<=lim)(q:Q (.bytes (br L)) μ):on (me (L.map fun t=>D.bytes ([32]++aa t))) fun r=>(aq [] r).length<=lim/\Q (.bytes (aq [] r)) μ:=
 dA (bP (fun t=>[32]++aa t) L) (by rw[DA];exact⟨hl,q⟩)
theorem kJ{x:D}(hx:x.items=some (L.map .str))(hL:Words L)(hz:L.length<=lim)(hl:(br L).length<=lim)(q:Q (.bytes (br L)) μ):ae (n+2) 54 [.d x] μ Q:=
 j_ (dA hx (id_map hz (aQ (fun t:List Nat=>D.bytes ([32]++aa t)) rfl hz (fun t ht K hK=>yT (hL t ht) K hK) (BW hl (ab q)))))
theorem xw{k:Nat}(hx:μ[k]? =some (.list (L.map .str)))(hL:Words L)(hz:L.length<=lim)(hl:(br L).length<=lim)(q:Q (.bytes (br L)) μ):ae (n+2) 54 [.loc k] μ Q:=by
 have hg:Ef (some (k,L.map .str)) μ:=fun _ _ h=>by cases h;exact hx
 refine j_ (aS hx ⟨by rw[TN];exact hz,?_⟩)
 rw[List.map_map]
 exact mz (by rw[TN];exact hz) (Dk hg (fun t:List Nat=>V.str t) (fun t:List Nat=>D.bytes ([32]++aa t)) rfl L .same (fun t ht K hK=>yT (hL t ht) K hK) (ab (BW hl (ab q))))
theorem oE{x:D}(hx:x.items=some (L.map .str))(hL:Words L)(hz:L.length<=lim)(hl:(ar (L.map aa)).length<=lim)(q:Q (.bytes (ar (L.map aa))) μ):ae (n+2) 55 [.d x] μ Q:=
 xI (dA hx (id_map hz (aQ (fun t:List Nat=>D.bytes (aa t)) rfl hz (fun t ht K hK=>aP (iL (hL t ht).2) (hL t ht).1 hK) (ya (f:=aa) hl (ab q)))))
theorem iG{x:D}{M:List Nat}(hx:x.items=some (M.map fun m:Nat=>.int (m:Int)))(hM:∀m∈M,m<10^90)(hz:M.length<=lim)(hl:(br (M.map dec)).length<=lim)(q:Q (.bytes (br (M.map dec))) μ):ae (n+3) 56 [.d x] μ Q:=by
 refine oj (dA hx (id_map hz (aQ (fun m:Nat=>D.str (dec m)) rfl hz (fun m hm K hK=>⟨Int.natCast_nonneg _,?_,hK⟩) (kJ (L:=M.map dec) ?_ ?_ (by rw[TN];exact hz) hl (ab q)))))
 ·exact Int.lt_of_lt_of_le (Int.ofNat_lt.mpr (hM m hm)) (Int.ofNat_le.mpr (Nat.pow_le_pow_right (Nat.zero_lt_succ 9) (TF rfl)))
 ·exact congrArg some (List.map_map ..).symm
 ·intro t ht
  obtain⟨m,hm,rfl⟩:=List.mem_map.mp ht
  exact⟨fun c hc=>dec_lt hc,Ta (eC (k:=90) (Nat.zero_lt_succ _) (hM m hm)) (by decide)⟩
end
end
section
variable{n:Nat}{μ:Mu}{Q:KV}{l:List UInt8}{L:List (List Nat)}
theorem MD{m:Nat}(h:m<10^90):(m:Int)<10^100:=Int.lt_of_lt_of_le (Int.ofNat_lt.mpr h) (Int.ofNat_le.mpr (Nat.pow_le_pow_right (Nat.zero_lt_succ 9) (TF rfl)))
noncomputable def bq(P:List (List Nat×Nat)):List (List Nat):=P.flatMap fun p=>[p.1,dec p.2]
noncomputable abbrev pairD(p:List Nat×Nat):D:=.tuple [.str p.1,.int (p.2:Int)]
theorem Bp(p:List Nat×Nat)(P:List (List Nat×Nat)):(bq (p::P)).map D.str=.str p.1::.str (dec p.2)::(bq P).map .str:=rfl
theorem QP{α:Type}{a:List α}{x y:α}:(a++[x]++[y]).length=a.length+2:=by rw[TM,TM];rfl
theorem r9{v0:Option V}{Q:KS}:∀(P:List (List Nat×Nat)) (acc:List D) (v2 v3:Option V),(∀p∈P,p.2<10^90)->acc.length+2*P.length<=lim->
  (∀v2' v3',Q .next ⟨[v0,some (.loc μ.length),v2',v3'],[]⟩ (μ++[.list (acc++(bq P).map .str)]))->
  wF n (.tup [.lv 2,.lv 3]) (P.map fun p=>V.d (pairD p)) none (dK.at 1).wb ⟨[v0,some (.loc μ.length),v2,v3],[]⟩ (μ++[.list acc]) Q
 |[],acc,v2,v3,hP,hz,q=>n8 ay (List.append_nil acc▸q v2 v3)
 |p::P,acc,v2,v3,hP,hz,q=>by
  rw[List.length_cons] at hz
  have hz1:acc.length<lim:=by omega
  have hz2:(acc++[D.str p.1]).length<lim:=by rw[TM];exact(show acc.length+1<lim by omega)
  rw[Bp,List.append_cons acc,List.append_cons (acc++_)] at q
  have ih:=r9 (v0:=v0) (Q:=Q) P (acc++[.str p.1]++[.str (dec p.2)]) (some (.str p.1)) (some (.int (p.2:Int))) (fun x hx=>hP x (.tail _ hx)) (by rw[QP];omega) q
  exact kM ay (mj (mj ⟨hz1,wD (mj ⟨Int.natCast_nonneg _,MD (hP p (.head _)),mj ⟨hz2,wD ih⟩⟩)⟩))
theorem gd{x:D}{P:List (List Nat×Nat)}(hx:x.items=some (P.map pairD))(hP:∀p∈P,p.2<10^90/\(∀c∈p.1,c<128)/\p.1.length<=1000)(hz:P.length<=1000)(hl:(br (bq P)).length<=lim)(q:Q (.bytes (br (bq P))) μ):ae (n+3) 57 [.d x] μ Q:=by
 have hlen:∀P:List (List Nat×Nat),(bq P).length=2*P.length:=fun P=>by
  induction P with
  |nil=>rfl
  |cons p P ih=>exact congrArg (·+2) ih
 have hW:Words (bq P):=by
  intro t ht
  obtain⟨p,hp,ht⟩:=List.mem_flatMap.mp ht
  obtain⟨a,b,c⟩:=hP p hp
  cases ht with
  |head=>exact⟨b,c⟩
  |tail _ ht=>
   obtain rfl:=List.eq_of_mem_singleton ht
   exact⟨fun c hc=>dec_lt hc,Ta (eC (k:=90) (Nat.zero_lt_succ _) a) (by decide)⟩
 refine rQ ⟨Nat.zero_le _,qZ (dA hx (id_map (iL hz) ?_))⟩
 rw[List.map_map]
 exact r9 P [] none none (fun p hp=>(hP p hp).1) (Ta (show 0+2*P.length<=2000 by omega) (TF rfl)) (fun v2' v3'=>xw (L:=bq P) fw hW (by rw[hlen];exact bz (by omega)) hl (iY q))
noncomputable abbrev IB:Type:=List Nat×D×List UInt8
noncomputable abbrev IE(f:IB):D:=.tuple [.str f.1,f.2.1]
noncomputable abbrev Fw(f:IB):List UInt8:=aa f.1++[32]++f.2.2
noncomputable abbrev yg(f:IB):Prop:=(∀c∈f.1,c<128)/\f.1.length<=1000/\sG 7 f.2.1 f.2.2
noncomputable abbrev OG:Ex:=.bin .add (.bin .add (.call (.const (.fn 8)) [(.lv 1)]) (.const (.d (.bytes [32])))) (.call (.const (.fn 47)) [(.lv 2)])
theorem AF(F:List IB):∀(v0 v1 v2:Option V) {Q:KD},(∀f∈F,yg f/\(Fw f).length<=lim)->Q (F.map fun f=>.bytes (Fw f)) μ->
  wC (n+13) OG (.tup [(.lv 1),(.lv 2)]) [] (F.map fun f=>V.d (IE f)) none ⟨[v0,v1,v2],[]⟩ μ Q:=by
 induction F with
 |nil=>exact fun v0 v1 v2 Q hF q=>fJ ay q
 |cons f F ih=>
  intro v0 v1 v2 Q hF q
  obtain⟨⟨a,b,c⟩,e⟩:=hF f (.head _)
  have e':=e
  rw[Fw,TM] at e'
  have e2:=Ta (Nat.le_add_right ..) e'
  rw[TM] at e2
  exact bZ ay (aP (iL b) a ⟨e2,hV c (dep:=0) (TF rfl) (Ta (Nat.le_add_left ..) e') rfl ⟨e',ih (Q:=fun ds=>Q (.bytes (Fw f)::ds)) _ _ _ (fun y hy=>hF y (.tail _ hy)) q⟩⟩)
theorem nK{x:D}{F:List IB}(hx:x.items=some (F.map IE))(hF:∀f∈F,yg f)(hz:F.length<=lim)(hl:(ar (F.map Fw)).length<=lim)(q:Q (.bytes (ar (F.map Fw))) μ):ae (n+14) 58 [.d x] μ Q:=by
 refine oi (dA hx (id_map hz ?_))
 rw[List.map_map]
 refine mz (by rw[TN];exact hz) (AF F none none none (fun f hf=>⟨hF f hf,?_⟩) (ab (ya (f:=Fw) hl (ab q))))
 rw[iU] at hl
 exact Ta (lq (List.mem_map.mpr ⟨f,hf,rfl⟩)) (Nat.le_of_succ_le (Nat.le_of_succ_le hl))
noncomputable def gI(a:Nat):List Nat:=if a=0 then[42]else dec a
noncomputable def iH(p:Nat×Nat):List Nat:=if p.1=p.2 then gI p.1 else gI p.1++[58]++gI p.2
theorem l8{a:Nat}(ha:a<10^90)(q:Q (.str (gI a)) μ):ae (n+1) 11 [.int (a:Int)] μ Q:=by
 by_cases h:a=0
 ·rw[gI,if_pos h] at q
  exact qA (ak (congrArg Int.ofNat h) (ab q))
 ·rw[gI,if_neg h] at q
  exact qA (ai (fun e=>h (Int.ofNat.inj e)) ⟨Int.natCast_nonneg _,MD ha,ab q⟩)
theorem oQ{a:Nat}(ha:a<10^90):(gI a).length<=90:=by
 unfold gI;split
 ·exact TF rfl
 ·exact eC (Nat.zero_lt_succ _) ha
theorem zk{p:Nat×Nat}(h1:p.1<10^90)(h2:p.2<10^90)(q:Q (.str (iH p)) μ):ae (n+2) 12 [.d (.tuple [.int (p.1:Int),.int (p.2:Int)])] μ Q:=by
 have a:=oQ h1
 have b:=oQ h2
 by_cases h:p.1=p.2
 ·rw[iH,if_pos h] at q
  exact o8 (ah (a:=0) rfl (TF rfl) (ah (a:=1) rfl (TF rfl) (ak (congrArg Int.ofNat h) (ah (a:=0) rfl (TF rfl) (l8 h1 (ab q))))))
 ·rw[iH,if_neg h] at q
  refine o8 (ah (a:=0) rfl (TF rfl) (ah (a:=1) rfl (TF rfl) (ai (fun e=>h (Int.ofNat.inj e)) (ah (a:=0) rfl (TF rfl) (l8 h1 ⟨bz ?_,ah (a:=1) rfl (TF rfl) (l8 h2 ⟨bz ?_,ab q⟩)⟩)))))
  ·exact Ta (Nat.add_le_add a (TG 1)) (by decide)
  ·rw[TM];exact Ta (Nat.add_le_add (Nat.add_le_add a (TG 1)) b) (by decide)
noncomputable def fW(S:List (Nat×Nat)):List Nat:=aq [44] (S.map iH)
theorem Af{S:List (Nat×Nat)}(hS:∀p∈S,p.1<10^90/\p.2<10^90)(hz:S.length<=lim)(hl:(fW S).length+1<=lim)(q:Q (.str (fW S)) μ):ae (n+3) 13 [.d (.tuple (S.map fun p=>.tuple [.int (p.1:Int),.int (p.2:Int)]))] μ Q:=
 A6 (id_map hz (aQ (fun p:Nat×Nat=>D.str (iH p)) rfl hz (fun p hp K hK=>zk (hS p hp).1 (hS p hp).2 hK) (dA (fq iH S) ⟨hl,ab q⟩)))
end
section
theorem AS{α:Type}{a:α}{l:List α}(h:l.length<=10):(a::l).length<=lim:=bz (Ta (Nat.succ_le_succ h) (TF rfl))
theorem gZ{a:Nat}(h:a<=2000000):a<=lim:=Ta h (TF rfl)
section
variable{n:Nat}{μ:Mu}{Q:KV}{l:List UInt8}{L:List (List Nat)}
set_option maxRecDepth 4000 in
theorem JA{v0:Option V}{Q:KS}(l:List Nat):∀(k:Nat) (v1 v2:Option V),(∀c∈l,32<=c/\c<127)->(∀a b,Q .next ⟨[v0,a,b],[]⟩ μ)->
  wF n (.tup [(.lv 1),(.lv 2)]) (((l.map fun c=>D.str [c]).zipIdx k).map fun p=>V.d (.tuple [.int (p.2:Int),p.1])) none (dP.at 0).wb ⟨[v0,v1,v2],[]⟩ μ Q:=by
 induction l with
 |nil=>exact fun k v1 v2 h q=>n8 ay (q v1 v2)
 |cons c l ih=>
  intro k v1 v2 h q
  obtain⟨h1,h2⟩:=h c (.head _)
  rw[List.map_cons,List.zipIdx_cons,List.map_cons]
  have e1:(32:Int)<=c:=Int.ofNat_le.mpr h1
  have e2:(c:Int)<127:=Int.ofNat_lt.mpr h2
  exact kM ay (ak e1 (ak e2 (ih (k+1) _ _ (fun x hx=>h x (.tail _ hx)) q)))
theorem jY{T:List UInt8}(hT:gr T)(hl:T.length<=1000)(q:Q (.bytes T) μ):ae (n+2) 52 [.str (codes T)] μ Q:=by
 have hl1:(codes T).length<=lim:=cP T▸iL hl
 have hc:∀c∈codes T,32<=c/\c<127:=by
  intro c hc
  obtain⟨a,ha,rfl⟩:=List.mem_map.mp hc
  have:=Bool.and_eq_true_iff.mp (hT.txt a ha)
  exact⟨Int.ofNat_le.mp (of_decide_eq_true this.1),Nat.lt_succ_of_le (Int.ofNat_le.mp (of_decide_eq_true this.2))⟩
 exact rz (JA (codes T) 0 none none hc (fun a b=>⟨hl1,ai hT.h1 ⟨hl1,ai hT.h2 (aP hl1 (fun c hx=>Nat.lt_trans (hc c hx).2 (by decide)) (by rw[sC];exact ab q))⟩⟩))
inductive sx:D->List UInt8->Prop
 |none:sx .none []
 |code (its:List (D×List UInt8)):(∀x∈its,sG 7 x.1 x.2)->its.length<=lim->sx (.list (its.map (·.1))) (91::(aq [32] (its.map (·.2))++[93,32]))
noncomputable abbrev jc(tag U:List Nat):List Nat:=tag++[32]++U++[32]
theorem MY{U tag:List Nat}{T cw:List UInt8}{cd:D}(hU:∀c∈ax U,c<128)(hU1:aK (ax U)=U)(hU2:U.length<=1000)(htag:∀c∈tag,c<128)(ht2:tag.length<=1000)(hT:gr T)(hl:T.length<=1000)(hcl:cw.length<=1000000)
  (q:Q (.bytes (aa (jc tag U)++cw++T)) μ):aA (n+14) (dw.body.drop 2) ⟨[some (.d (.tuple [.str (ax U),.str tag,cd,.str (codes T)])),some (.bytes cw)],[]⟩ μ (aR μ Q):=by
 have hu2:∀c∈U,c<128:=hU1▸j9 hU
 have z0:∀c∈[32],c<128:=fun c h=>List.eq_of_mem_singleton h▸TF rfl
 have e2:∀c∈jc tag U,c<128:=fun c hc=>(List.mem_append.mp hc).elim (fun h=>(List.mem_append.mp h).elim (fun h=>(List.mem_append.mp h).elim (htag c) (z0 c)) (hu2 c)) (z0 c)
 have z1:(tag++[32]).length<=1001:=by rw[TM];exact Nat.succ_le_succ ht2
 have z2:(tag++[32]++U).length<=2001:=by rw[TM];exact Nat.add_le_add z1 hU2
 have z3:(jc tag U).length<=2002:=by rw[TM];exact Nat.succ_le_succ z2
 have z4:(aa (jc tag U)++cw).length<=1002002:=by rw[TM,aL,Nat.add_comm];exact Nat.add_le_add hcl z3
 refine ah (a:=1) rfl (TF rfl) ⟨bz (Ta (Nat.succ_le_succ ht2) (by decide)),ah (a:=0) rfl (TF rfl) (bM (by rw[ax,TN];exact iL hU2) hU ?_)⟩
 rw[hU1]
 refine⟨?_,?_,aP (bz (Ta z3 (by decide))) e2 ⟨?_,ah (a:=3) rfl (TF rfl) (jY hT hl ⟨?_,ab q⟩)⟩⟩
 ·exact bz (Ta (Nat.add_le_add z1 hU2) (by decide))
 ·exact bz (Ta (Nat.succ_le_succ z2) (by decide))
 ·rw[aL,Nat.add_comm];exact gZ (Ta (Nat.add_le_add hcl z3) (by decide))
 ·exact gZ (Ta (Nat.add_le_add z4 hl) (by decide))
theorem pz{U tag:List Nat}{T cw:List UInt8}{cd:D}(hU:∀c∈ax U,c<128)(hU1:aK (ax U)=U)(hU2:U.length<=1000)(htag:∀c∈tag,c<128)(ht2:tag.length<=1000)(hcd:sx cd cw)(hT:gr T)(hl:T.length<=1000)(hcl:cw.length<=1000000)
  (q:Q (.bytes (aa (jc tag U)++cw++T)) μ):ae (n+15) 59 [.d (.tuple [.str (ax U),.str tag,cd,.str (codes T)])] μ Q:=by
 have fin:=MY (n:=n) (cd:=cd) hU hU1 hU2 htag ht2 hT hl hcl q
 cases hcd with
 |none=>exact jF (ah (a:=2) rfl (TF rfl) fin)
 |code its h1 h2=>
  have hj:(aq [32] (its.map Prod.snd)).length+3<=1000000:=by rw[List.length_cons,TM] at hcl;exact hcl
  refine jF (ah (a:=2) rfl (TF rfl) (ah (a:=2) rfl (TF rfl) (id_map h2 (aQ (fun x:D×List UInt8=>D.bytes x.2) rfl h2 (fun x hx K hK=>hV (h1 x hx) (dep:=0) (TF rfl) ?_ rfl hK) (dA (bP (fun x:D×List UInt8=>x.2) its) ⟨gZ ?_,gZ ?_,gZ ?_,fin⟩)))))
  ·exact Ta (lq (s:=[32]) (List.mem_map.mpr ⟨x,hx,rfl⟩)) (gZ (show(aq [32] (its.map Prod.snd)).length<=_ by omega))
  ·exact(show(aq [32] (its.map Prod.snd)).length<=2000000 by omega)
  ·exact(show 1+(aq [32] (its.map Prod.snd)).length<=2000000 by omega)
  ·exact(show(aq [32] (its.map Prod.snd)).length+1+2<=2000000 by omega)
end
end
section
noncomputable abbrev Cp:List (List Nat):=[[102,108,97,103,115],[115,116,97,116,117,115],[108,105,115,116],[108,115,117,98]]
noncomputable abbrev p9:List (List Nat):=[[115,101,97,114,99,104],[101,115,101,97,114,99,104],[115,111,114,116],[116,104,114,101,97,100]]
noncomputable abbrev uy:List (List Nat):=[[101,120,105,115,116,115],[101,120,112,117,110,103,101]]
noncomputable abbrev rI:List (List Nat):=[[99,97,112,97,98,105,108,105,116,121],[101,110,97,98,108,101,100]]
noncomputable abbrev rM:List Nat:=[102,101,116,99,104]
noncomputable abbrev GB:List Nat:=[118,97,110,105,115,104,101,100]
noncomputable def WU(x:D)(t:List UInt8):Prop:=∀ ⦃n:Nat⦄ ⦃μ:Mu⦄ ⦃Q:KV⦄,Q (.bytes t) μ->ae (n+50) 62 [.d x] μ Q
noncomputable def mD(x:D)(t:List UInt8):Prop:=∀ ⦃n:Nat⦄ ⦃μ:Mu⦄ ⦃Q:KV⦄,Q (.bytes t) μ->ae (n+60) 63 [.d x] μ Q
section
variable{n:Nat}{μ:Mu}{Q:KV}{l:List UInt8}{L:List (List Nat)}{K:List Nat}{r:List D}{x:D}
theorem iD(hr:r.length<=10)(q:aA (n+49) (cz.body.drop 1) ⟨[some (.d (.tuple (.str K::r))),some (.str K)],[]⟩ μ (aR μ Q)):ae (n+50) 62 [.d (.tuple (.str K::r))] μ Q:=
 ng (ah (a:=0) rfl (AS hr) q)
theorem AX(hr:r.length<=10)(hK:K∈Cp){t:List UInt8}(h:∀{n:Nat} {μ:Mu} {Q:KV},Q (.bytes t) μ->ae (n+40) 60 [.d (.tuple (.str K::r))] μ Q):WU (.tuple (.str K::r)) t:=
 fun n μ Q q=>iD hr ⟨TF rfl,ak hK (h (n:=n+9) (ab q))⟩
theorem m8(hr:r.length<=10)(hK:K∈p9){t:List UInt8}(h:∀{n:Nat} {μ:Mu} {Q:KV},Q (.bytes t) μ->ae (n+40) 61 [.d (.tuple (.str K::r))] μ Q):WU (.tuple (.str K::r)) t:=
 fun n μ Q q=>iD hr ⟨TF rfl,ai ((by decide:∀x∈p9,x∉Cp) K hK) ⟨TF rfl,ak hK (h (n:=n+9) (ab q))⟩⟩
theorem NV{m:Nat}(hK:K∈uy)(hm:m<10^90):WU (.tuple [.str K,.int (m:Int)]) (aa (dec m++[32]++aK K)):=by
 intro n μ Q q
 have hk:(∀c∈K,c<128)/\K.length<=20:=(by decide:∀x∈uy,(∀c∈x,c<128)/\x.length<=20) K hK
 have hd:(dec m++[32]).length<=91:=by rw[TM];exact Nat.succ_le_succ (eC (k:=90) (Nat.zero_lt_succ _) hm)
 have hul:(aK K).length<=20:=by rw[aK,TN];exact hk.2
 have z:=bz (Ta (Nat.add_le_add hd hul) (TF rfl))
 refine iD (TF rfl) ⟨TF rfl,ai ((by decide:∀x∈uy,x∉Cp) K hK) ⟨TF rfl,ai ((by decide:∀x∈uy,x∉p9) K hK) ⟨TF rfl,ak hK
  (ah (a:=1) rfl (TF rfl) ⟨Int.natCast_nonneg _,MD hm,?_,bM (iL (Ta hk.2 (TF rfl))) hk.1 ⟨z,aP ?_ (fun c hc=>?_) (ab q)⟩⟩)⟩⟩⟩
 ·rw[TM] at hd;exact bz (Ta hd (TF rfl))
 ·rw[TM];exact z
 ·exact(List.mem_append.mp hc).elim (fun h=>(List.mem_append.mp h).elim dec_lt fun h=>List.eq_of_mem_singleton h▸TF rfl) (j9 hk.1 c)
theorem Gx{m:Nat}{F:List IB}(hm:m<10^90)(hF:∀f∈F,yg f)(hz:F.length<=lim)(hl:(ar (F.map Fw)).length<=1000000):WU (.tuple [.str rM,.int (m:Int),.tuple (F.map IE)]) (bI m++[32,70,69,84,67,72,32]++ar (F.map Fw)):=by
 intro n μ Q q
 have hd:=eC (k:=90) (Nat.zero_lt_succ _) hm
 have hd2:(bI m).length<=90:=aL (dec m)▸hd
 have z:(bI m).length+7<=100:=Ta (Nat.add_le_add_right hd2 7) (TF rfl)
 refine iD (TF rfl) ⟨TF rfl,TF rfl,TF rfl,
  ah (a:=1) rfl (TF rfl) ⟨Int.natCast_nonneg _,MD hm,aP (bz (Ta hd (TF rfl))) (fun c hc=>dec_lt hc) ⟨bz (Ta z (TF rfl)),ah (a:=2) rfl (TF rfl) (nK (n:=n+35) rfl hF hz (gZ (Ta hl (TF rfl))) ⟨gZ ?_,ab q⟩)⟩⟩⟩
 rw[TM]
 exact Ta (Nat.add_le_add z hl) (TF rfl)
end
end
section
theorem JV{α:Type}(l:List α):cut l (some 1) none=l.drop 1:=by
 have e1:clip 1 l.length=min 1 l.length:=by simp only[clip];split<;>omega
 simp only[cut,pf,rY,e1,List.take_length]
 cases l with
 |nil=>rfl
 |cons a l=>rw[List.length_cons,Nat.min_eq_left (Nat.succ_le_succ (Nat.zero_le _))]
theorem la{α:Type}{a b:List α}{x y:Nat}(ha:a.length<=x)(hb:b.length<=y):(a++b).length<=x+y:=by rw[TM];exact Nat.add_le_add ha hb
theorem ll{α:Type}{a b:List α}{x y:Nat}(ha:a.length<=x)(hb:b.length<=y)(h:Nat.ble (x+y) 10000000=true):a.length+b.length<=lim:=Ta (Ta (Nat.add_le_add ha hb) (TF h)) (TF rfl)
theorem tr{a b c:Nat}(h:a<=b)(e:Nat.ble b c=true):a<=c:=Ta h (TF e)
section
variable{n:Nat}{μ:Mu}{Q:KV}{l:List UInt8}{L:List (List Nat)}{K:List Nat}{r:List D}{x:D}
theorem Nn{S:List (Nat×Nat)}{b:Bool}(hS:∀p∈S,p.1<10^90/\p.2<10^90)(hz:S.length<=lim)(hl:(fW S).length<=1000)(hs:∀c∈fW S,c<128):
  WU (.tuple [.str GB,.tuple (S.map fun p=>.tuple [.int (p.1:Int),.int (p.2:Int)]),.bool b]) ([86,65,78,73,83,72,69,68,32]++lP b++aa (fW S)):=by
 intro n μ Q q
 have z:(aa (fW S)).length<=1000:=aL (fW S)▸hl
 have fin {K:KV} (hK:K (.bytes (aa (fW S))) μ):ae (n+49) 13 [.d (.tuple (S.map fun p=>.tuple [.int (p.1:Int),.int (p.2:Int)]))] μ fun v μ'=>MP (n+49) (.fn 8) K [v] μ':=
  Af hS hz (tr (Nat.succ_le_succ hl) rfl) (aP (iL hl) hs hK)
 refine iD (TF rfl) ⟨TF rfl,TF rfl,TF rfl,ah (a:=2) rfl (TF rfl) ?_⟩
 cases b with
 |false=>exact⟨TF rfl,ah (a:=1) rfl (TF rfl) (fin ⟨ll (TG _) z rfl,ab q⟩)⟩
 |true=>exact⟨TF rfl,ah (a:=1) rfl (TF rfl) (fin ⟨ll (TG _) z rfl,ab q⟩)⟩
theorem J_(hK:K∈rI)(hW:Words L)(hz:L.length<=lim)(hl:(br L).length<=1000000):WU (.tuple [.str K,.tuple (L.map .str)]) (aa (aK K)++br L):=by
 intro n μ Q q
 have hk:(∀c∈K,c<128)/\K.length<=20:=(by decide:∀x∈rI,(∀c∈x,c<128)/\x.length<=20) K hK
 have hul:(aK K).length<=20:=by rw[aK,TN];exact hk.2
 have z0:(aa (aK K)).length<=20:=aL (aK K)▸hul
 exact iD (TF rfl) ⟨TF rfl,ai ((by decide:∀x∈rI,x∉Cp) K hK) ⟨TF rfl,ai ((by decide:∀x∈rI,x∉p9) K hK) ⟨TF rfl,ai ((by decide:∀x∈rI,x∉uy) K hK)
  (ai ((by decide:∀x∈rI,x≠rM) K hK) (ai ((by decide:∀x∈rI,x≠GB) K hK) ⟨TF rfl,ak hK (bM (tr hk.2 rfl) hk.1 (aP (tr hul rfl) (j9 hk.1) (ah (a:=1) rfl (TF rfl) (kJ rfl hW hz (tr hl rfl) ⟨ll z0 hl rfl,ab q⟩))))⟩))⟩⟩⟩
theorem GX(hW:Words L)(hz:L.length<=lim)(hl:(ar (L.map aa)).length<=1000000):WU (.tuple [.str [102,108,97,103,115],.tuple (L.map .str)]) ([70,76,65,71,83,32]++ar (L.map aa)):=
 AX (TF rfl) (.head _) fun{n μ Q} q=>jk (ah (a:=0) rfl (TF rfl) (ah (a:=1) rfl (TF rfl) (oE rfl hW hz (tr hl rfl) ⟨ll (TG _) hl rfl,ab q⟩)))
noncomputable abbrev OT(P:List (List Nat×Nat)):Prop:=∀p∈P,p.2<10^90/\(∀c∈p.1,c<128)/\p.1.length<=1000
theorem Lf{nm:List UInt8}{P:List (List Nat×Nat)}(hnm:nm.length<=1000)(hp:∀c∈nm,gy c)(hP:OT P)(hz:P.length<=1000)(hl:(br (bq P)).length<=1000000)(hl2:(mQ nm).length<=1000000):
  WU (.tuple [.str [115,116,97,116,117,115],.str (codes nm),.tuple (P.map pairD)]) ([83,84,65,84,85,83,32]++mQ nm++[32,40]++(br (bq P)).drop 1++[41]):=by
 refine AX (TF rfl) (.tail _ (.head _)) fun{n μ Q} q=>?_
 have hd:((br (bq P)).drop 1).length<=1000000:=by rw[List.length_drop];exact Ta (Nat.sub_le ..) hl
 have z1:([83,84,65,84,85,83,32]++mQ nm).length<=7+1000000:=la (TG _) hl2
 have z2:([83,84,65,84,85,83,32]++mQ nm++[32,40]).length<=7+1000000+2:=la z1 (TG _)
 exact jk (ah (a:=0) rfl (TF rfl) (ah (a:=0) rfl (TF rfl) (ah (a:=1) rfl (TF rfl) (lZ hnm hp ⟨ll (TG _) hl2 rfl,ll z1 (TG _) rfl,ah (a:=2) rfl (TF rfl) (gd rfl hP hz (tr hl rfl)
  ⟨tr hl rfl,by rw[JV];exact⟨ll z2 hd rfl,ll (la z2 hd) (TG _) rfl,ab q⟩⟩)⟩))))
theorem IJ{nm:List UInt8}(hK:K∈([[108,105,115,116],[108,115,117,98]]:List (List Nat)))(hnm:nm.length<=1000)(hp:∀c∈nm,gy c)(hW:Words L)(hz:L.length<=lim)(hl:(ar (L.map aa)).length<=1000000)(hl2:(mQ nm).length<=1000000):
  WU (.tuple [.str K,.tuple (L.map .str),.str (codes nm)]) (aa (aK K)++[32]++ar (L.map aa)++[32,34,47,34,32]++mQ nm):=by
 refine AX (TF rfl) (.tail _ (.tail _ hK)) fun{n μ Q} q=>?_
 have hk:(∀c∈K,c<128)/\K.length<=20/\K≠[102,108,97,103,115]/\K≠[115,116,97,116,117,115]:=(by decide:∀x∈([[108,105,115,116],[108,115,117,98]]:List (List Nat)),(∀c∈x,c<128)/\x.length<=20/\x≠[102,108,97,103,115]/\x≠[115,116,97,116,117,115]) K hK
 have hul:(aK K).length<=20:=by rw[aK,TN];exact hk.2.1
 have z0:(aa (aK K)).length<=20:=aL (aK K)▸hul
 have z1:(aa (aK K)++[32]).length<=20+1:=la z0 (TG _)
 have z2:(aa (aK K)++[32]++ar (L.map aa)).length<=20+1+1000000:=la z1 hl
 have z3:(aa (aK K)++[32]++ar (L.map aa)++[32,34,47,34,32]).length<=20+1+1000000+5:=la z2 (TG _)
 exact jk (ah (a:=0) rfl (TF rfl) (ai hk.2.2.1 (ah (a:=0) rfl (TF rfl) (ai hk.2.2.2 (ah (a:=0) rfl (TF rfl) (bM (tr hk.2.1 rfl) hk.1 (aP (tr hul rfl) (j9 hk.1) ⟨ll z0 (TG _) rfl,ah (a:=1) rfl (TF rfl)
  (oE rfl hW hz (tr hl rfl) ⟨ll z1 hl rfl,ll z2 (TG _) rfl,ah (a:=2) rfl (TF rfl) (lZ hnm hp ⟨ll z3 hl2 rfl,ab q⟩)⟩)⟩)))))))
end
end
section
noncomputable def lJ(m:Nat):List UInt8:=if(m:Int)>0 then cy++bI m++[41]else[]
noncomputable def J0(o:List UInt8):List UInt8:=if o=[]then[]else 32::o
section
variable{L:List (List Nat)}{K:List Nat}{r:List D}{x:D}
theorem wQ{m:Nat}(hm:m<10^90):(bI m).length<=90:=iS (Nat.zero_lt_succ _) hm
theorem Ey{M:List Nat}{m:Nat}(hM:∀m∈M,m<10^90)(hz:M.length<=lim)(hl:(br (M.map dec)).length<=1000000)(hm:m<10^90):
  WU (.tuple [.str [115,101,97,114,99,104],.tuple (M.map fun m:Nat=>.int (m:Int)),.int (m:Int)]) ([83,69,65,82,67,72]++br (M.map dec)++lJ m):=by
 refine m8 (TF rfl) (.head _) fun{n μ Q} q=>?_
 have fin (w:List UInt8) (hw:w.length<=200) (q:Q (.bytes ([83,69,65,82,67,72]++br (M.map dec)++w)) μ):aA (n+39) ((cL.at 0).wb.drop 1) ⟨[some (.d (.tuple [.str [115,101,97,114,99,104],.tuple (M.map fun m:Nat=>.int (m:Int)),.int (m:Int)])),some (.bytes w),none],[]⟩ μ (Az (aA (n+39) (cL.body.drop 1)) (aR μ Q)):=
  ah (a:=1) rfl (TF rfl) (iG rfl hM hz (tr hl rfl) ⟨ll (TG _) hl rfl,ll (la (TG _) hl) hw rfl,ab q⟩)
 have hd:=eC (k:=90) (Nat.zero_lt_succ _) hm
 refine ei (ah (a:=0) rfl (TF rfl) (ah (a:=2) rfl (TF rfl) ?_))
 by_cases h:(m:Int)>0
 ·rw[lJ,if_pos h] at q
  exact ak h (ah (a:=2) rfl (TF rfl) ⟨Int.natCast_nonneg _,MD hm,aP (tr hd rfl) (fun c hc=>dec_lt hc) ⟨ll (TG _) (wQ hm) rfl,ll (la (TG _) (wQ hm)) (TG _) rfl,fin _ (tr (la (la (TG _) (wQ hm)) (TG _)) rfl) q⟩⟩)
 ·rw[lJ,if_neg h] at q
  exact ai h (fin [] (Nat.zero_le _) q)
theorem JP{M:List Nat}(hM:∀m∈M,m<10^90)(hz:M.length<=lim)(hl:(br (M.map dec)).length<=1000000):
  WU (.tuple [.str [115,111,114,116],.tuple (M.map fun m:Nat=>.int (m:Int))]) ([83,79,82,84]++br (M.map dec)):=
 m8 (TF rfl) (.tail _ (.tail _ (.head _))) fun{n μ Q} q=>ei (ah (a:=0) rfl (TF rfl) (ah (a:=0) rfl (TF rfl) (ah (a:=0) rfl (TF rfl) (ah (a:=1) rfl (TF rfl)
  (iG rfl hM hz (tr hl rfl) ⟨ll (TG _) hl rfl,ab q⟩)))))
theorem DG{o:List UInt8}(ho:o.length<=1000):WU (.tuple [.str [116,104,114,101,97,100],.bytes o]) ([84,72,82,69,65,68]++J0 o):=by
 refine m8 (TF rfl) (.tail _ (.tail _ (.tail _ (.head _)))) fun{n μ Q} q=>ei (ah (a:=0) rfl (TF rfl) (ah (a:=0) rfl (TF rfl) (ah (a:=0) rfl (TF rfl) (ah (a:=1) rfl (TF rfl) ?_))))
 by_cases h:o=[]
 ·rw[J0,if_pos h] at q
  exact ai (fun e=>e h) ⟨TF rfl,ab q⟩
 ·rw[J0,if_neg h] at q
  exact ak h (ah (a:=1) rfl (TF rfl) ⟨ll (TG _) ho rfl,ll (TG _) (la (TG _) ho) rfl,ab q⟩)
theorem An{tg:List UInt8}{b:Bool}{P:List (List Nat×Nat)}(htg:∀c∈tg,c.toNat<128)(tg0:tg≠[])(tgl:tg.length<=1000)(hP:OT P)(hz:P.length<=1000)(hl:(br (bq P)).length<=1000000)(hsl:(md tg).length<=10000):
  WU (.tuple [.str [101,115,101,97,114,99,104],.str (codes tg),.bool b,.tuple (P.map pairD)]) ([69,83,69,65,82,67,72]++(ma++md tg++[41])++lK b++br (bq P)):=by
 refine m8 (TF rfl) (.tail _ (.head _)) fun{n μ Q} q=>?_
 have h0:¬codes tg=[]:=fun e=>tg0 (List.map_eq_nil_iff.mp e)
 have z1:(ma++md tg).length<=6+10000:=la (TG _) hsl
 have z2:(ma++md tg++[41]).length<=6+10000+1:=la z1 (TG _)
 have z3:([69,83,69,65,82,67,72]++(ma++md tg++[41])).length<=7+(6+10000+1):=la (TG _) z2
 refine ei (ah (a:=0) rfl (TF rfl) (ah (a:=0) rfl (TF rfl) (ah (a:=1) rfl (TF rfl) (ak h0 (ah (a:=1) rfl (TF rfl) (aP (cP tg▸iL tgl) (nx htg) ?_))))))
 rw[sC]
 refine hV (.bytes 7 tg tgl) (dep:=0) (TF rfl) (tr hsl rfl) rfl ⟨ll (TG _) hsl rfl,ll z1 (TG _) rfl,ll (TG _) z2 rfl,ah (a:=2) rfl (TF rfl) ?_⟩
 cases b with
 |false=>exact⟨ll z3 (TG _) rfl,ah (a:=3) rfl (TF rfl) (gd rfl hP hz (tr hl rfl) ⟨ll (la z3 (TG _)) hl rfl,ab q⟩)⟩
 |true=>exact⟨ll z3 (TG _) rfl,ah (a:=3) rfl (TF rfl) (gd rfl hP hz (tr hl rfl) ⟨ll (la z3 (TG _)) hl rfl,ab q⟩)⟩
end
end
section
variable{K:List Nat}{r:List D}{x:D}
noncomputable abbrev tX:List Nat:=[103,111,32,111,110]
theorem cm{t:List UInt8}(hr:r.length<=10)(hK:aK K∉bX)(hK2:K≠tX)(hK7:∀c∈K,c<128)(hKl:K.length<=1000)(ht:t.length<=1000000)(h:WU (.tuple (.str K::r)) t):mD (.tuple (.str K::r)) ([42,32]++(t++[13,10])):=
 fun n μ Q q=>gx (ah (a:=0) rfl (AS hr) (bM (iL hKl) hK7 ⟨rfl,.head _,ai hK (ah (a:=0) rfl (AS hr) (ai hK2 (h (n:=n+9) ⟨ll (TG _) ht rfl,ll (la (TG _) ht) (TG _) rfl,ab q⟩)))⟩))
theorem xG{T:List UInt8}(hT:gr T)(hl:T.length<=1000):mD (.tuple [.str tX,.str (codes T)]) ([43,32]++(T++[13,10])):=
 fun n μ Q q=>gx (ah (a:=0) rfl (TF rfl) (bM (TF rfl) (by decide) ⟨rfl,.head _,ah (a:=0) rfl (TF rfl) (ah (a:=1) rfl (TF rfl)
  (jY hT hl ⟨ll (TG _) hl rfl,ll (la (TG _) hl) (TG _) rfl,ab q⟩))⟩))
theorem sN{U tag:List Nat}{T cw:List UInt8}{cd:D}(hU:U∈bX)(htag:∀c∈tag,c<128)(ht2:tag.length<=1000)(hcd:sx cd cw)(hT:gr T)(hl:T.length<=1000)(hcl:cw.length<=1000000):
  mD (.tuple [.str (ax U),.str tag,cd,.str (codes T)]) (aa (jc tag U)++cw++(T++[13,10])):=by
 intro n μ Q q
 obtain⟨h1,h2,h3⟩:aK (ax U)=U/\(∀c∈ax U,c<128)/\U.length<=1000:=(by decide:∀x∈bX,aK (ax x)=x/\(∀c∈ax x,c<128)/\x.length<=1000) U hU
 have z:(aa (jc tag U)).length<=1000+1+1000+1:=aL (jc tag U)▸la (la (la ht2 (TG _)) h3) (TG _)
 refine gx (ah (a:=0) rfl (TF rfl) (bM (by rw[ax,TN];exact iL h3) h2 ⟨rfl,.head _,?_⟩))
 rw[h1]
 rw[<-TP] at q
 exact ak hU (pz h2 h1 h3 htag ht2 hcd hT hl hcl ⟨ll (la (la z hcl) hl) (TG _) rfl,ab q⟩)
end
section
structure gF where
 cs:List Nat
 a:Nat
 b:Nat
 m:Int
noncomputable abbrev su(c:Nat):D:=.int (c:Int)
noncomputable abbrev gF.l(I:gF):aI:=.list (I.cs.map su)
noncomputable abbrev gF.v(I:gF):aI:=.gV [.loc 1,.int (I.a:Int),.int (I.b:Int),.int I.m]
noncomputable def ik(μ:Mu)(I:gF):Mu:=(μ.set 1 I.l).set 2 I.v
noncomputable def cj(B:Nat)(I:gF):Prop:=I.cs.length<=lim/\I.b<=B
theorem cj.mono{B B':Nat}{I:gF}(h:cj B I)(hb:B<=B'):cj B' I:=⟨h.1,Ta h.2 hb⟩
section
variable{μ:Mu}{I I':gF}{k:Nat}
theorem cn:(ik μ I).length=μ.length:=List.length_set.trans List.length_set
theorem LN(h:3<=μ.length):1<μ.length:=Nat.lt_of_lt_of_le (by decide) h
theorem kT(h:3<=μ.length):(ik μ I)[1]? =some I.l:=(List.getElem?_set_ne (by decide)).trans (List.getElem?_set_self (LN h))
theorem mE(h:3<=μ.length):(ik μ I)[2]? =some I.v:=List.getElem?_set_self (List.length_set.symm▸h)
theorem ea{j:Nat}(h1:j≠1)(h2:j≠2):(ik μ I)[j]? =μ[j]? :=(List.getElem?_set_ne (Ne.symm h2)).trans (List.getElem?_set_ne (Ne.symm h1))
theorem Kt(cs':List Nat):(ik μ I).set 1 (.list (cs'.map su))=ik μ ⟨cs',I.a,I.b,I.m⟩:=by
 rw[ik,List.set_comm _ _ (by decide:(2:Nat)≠1),List.set_set];rfl
theorem I9:(ik μ I).set 2 I'.v=ik μ ⟨I.cs,I'.a,I'.b,I'.m⟩:=List.set_set ..
theorem dZ(h:3<=μ.length)(l:Mu):ik μ I++l=ik (μ++l) I:=by
 unfold ik;rw[List.set_append_left _ _ (LN h),List.set_append_left _ _ (List.length_set.symm▸h)]
theorem IU(h:3<=μ.length)(l:Mu):(ik (μ++l) I).take μ.length=ik μ I:=by rw[<-dZ h];exact List.take_left' cn
theorem E2:(ik μ I).take μ.length=ik μ I:=List.take_of_length_le (Nat.le_of_eq cn)
theorem II(h:3<=μ.length){x:aI}:(ik (μ++[x]) I)[μ.length]? =some x:=(ea (Nat.ne_of_gt (LN h)) (Nat.ne_of_gt h)).trans fw
theorem LA(h:Cl (ik μ I))(hk:3<=μ.length):Cl (ik μ I'):=by
 intro j m hj
 by_cases e1:j=1
 ·subst e1;rw[kT hk] at hj;cases hj;exact True.intro
 by_cases e2:j=2
 ·subst e2
  rw[mE hk] at hj;cases hj
  rw[cn]
  exact⟨LN hk,True.intro,True.intro,True.intro,True.intro⟩
 ·rw[ea e1 e2] at hj
  have:=h j m ((ea e1 e2).trans hj)
  rw[cn] at this⊢
  exact this
theorem lG{x:D}{Q:KV}(hk:3<=μ.length)(q:Q (.d x) (ik μ I')):nJ (ik μ I) Q (ik μ I') x:=by
 unfold nJ;rw[cn,E2];exact⟨fun h=>LA h hk,q⟩
theorem gQ{x:D}{l:Mu}{Q:KV}(hk:3<=μ.length)(q:Q (.d x) (ik μ I')):nJ (ik μ I) Q (ik (μ++l) I') x:=by
 unfold nJ;rw[cn,IU hk];exact⟨fun h=>LA h hk,q⟩
theorem fs(hk:3<=μ.length){x:aI}{Q:aI->Prop}(q:Q x):iy (ik (μ++[x]) I) μ.length Q:=⟨x,II hk,q⟩
end
section
variable{μ:Mu}{I:gF}{Q:KV}{K:Mu->Prop}
theorem ID{j:Nat}{x:V}(hk:3<=μ.length)(h:[V.loc 1,.int (I.a:Int),.int (I.b:Int),.int I.m][j]? =some x)(q:Q x (ik μ I)):Nz (.loc 2) (j:Int) (ik μ I) Q:=⟨Int.natCast_nonneg _,aS (mE hk) (ah h (TF rfl) q)⟩
theorem Tx{j x:Nat}(q:K (ik μ ⟨I.cs.set j x,I.a,I.b,I.m⟩)):lX 1 (.list ((I.cs.map su).set j (.int (x:Int)))) (ik μ I) K:=by
 have e:(I.cs.set j x).map su=_:=List.map_set
 unfold lX;rw[<-Kt,e] at q;exact q
theorem Qm(I':gF)(q:K (ik μ ⟨I.cs,I'.a,I'.b,I'.m⟩)):lX 2 I'.v (ik μ I) K:=by unfold lX;rw[I9];exact q
end
end
section
variable{n:Nat}{μ:Mu}{I:gF}{k B:Nat}{Q:KV}
theorem SN{b B:Nat}(h:b<=B)(hB:B<=10^80):b+1<=10^100:=Ta (Nat.succ_le_succ (Ta h hB)) (TF rfl)
theorem cf{m:Nat}(hk:3<=μ.length)(hI:cj B I)(hB:B<=10^80)(hm:0<m)(hm2:m<=10^90)(q:∀(x:Nat) I',x<m->cj (B+1) I'->Q (.int (x:Int)) (ik μ I')):ae (n+1) 85 [.loc 2,.int (m:Int)] (ik μ I) Q:=by
 have hl:(I.cs.map su).length<=lim:=by rw[TN];exact hI.1
 have hb:=hI.2
 have hm0:(0:Int)<(m:Int):=il hm
 refine Ij (ID (j:=0) hk rfl (ID (j:=1) hk rfl ⟨TF rfl,aS (kT hk) ⟨hl,?_⟩⟩))
 by_cases h:I.a<I.cs.length
 ·have e1:¬(I.a:Int)>=((I.cs.map su).length:Int):=by rw[TN];exact Int.not_le.mpr (il h)
  have ha:I.a<(I.cs.map su).length:=by rw[TN];exact h
  have hg:(I.cs.map su)[I.a]? =some (.int ((I.cs[I.a]:Nat):Int)):=by rw[List.getElem?_map,List.getElem?_eq_getElem h];rfl
  have hm3:m<=10^100:=Ta hm2 (TF rfl)
  generalize hw:I.cs[I.a]=w at hg
  have hl2:(I.cs.set I.a (w / m)).length<=lim:=by rw[List.length_set];exact hI.1
  have hl3:((I.cs.set I.a (w / m)).map su).length<=lim:=by rw[TN];exact hl2
  have hg2:((I.cs.set I.a (w / m)).map su)[I.a]? =some (.int ((w / m:Nat):Int)):=by rw[List.getElem?_map,List.getElem?_set_self h];rfl
  refine ai e1 ⟨Int.natCast_nonneg _,aS (kT hk) (ah hg hl ⟨hm0,⟨Int.natCast_nonneg _,aS (kT hk) (ah hg hl ⟨hm0,hm3,aS (kT hk) ⟨Int.natCast_nonneg _,ha,hl,Tx (x:=w / m) ⟨Int.natCast_nonneg _,aS (kT hk) (ah hg2 hl3 ?_)⟩⟩⟩)⟩⟩)⟩
  by_cases hz:((w / m:Nat):Int)=0
  ·exact ak hz (aS (mE hk) ⟨Int.le_of_lt Int.one_pos,TF rfl,TF rfl,Qm ⟨[],I.a+1,I.b,I.m⟩ (lG hk (q (w%m) _ (Nat.mod_lt _ hm) ⟨hl2,Nat.le_succ_of_le hb⟩))⟩)
  ·exact ai hz (lG hk (q (w%m) _ (Nat.mod_lt _ hm) ⟨hl2,Nat.le_succ_of_le hb⟩))
 ·have e1:(I.a:Int)>=((I.cs.map su).length:Int):=by rw[TN];exact cN (Nat.le_of_not_lt h)
  have hbb:=SN hb hB
  exact ak e1 (ID (j:=2) hk rfl (aS (mE hk) ⟨Int.natCast_nonneg 2,TF rfl,TF rfl,Qm ⟨[],I.a,I.b+1,I.m⟩ (ID (j:=2) hk rfl ⟨TF rfl,hbb,ID (j:=2) hk rfl (ID (j:=2) hk rfl ⟨hbb,hbb,by decide,TF rfl,hm0,
   lG hk (q ((7*(I.b+1)+(I.b+1)*(I.b+1) / 9)%m) _ (Nat.mod_lt _ hm) ⟨hI.1,Nat.succ_le_succ hb⟩)⟩)⟩)⟩))
theorem dF{l:List D}{x:D}(hk:3<=μ.length)(hI:cj B I)(hB:B<=10^80)(hx:x=.tuple l\/x=.list l)(h0:l≠[])(hl:l.length<=1000)(q:∀y∈l,∀I',cj (B+1) I'->Q (.d y) (ik μ I')):ae (n+2) 86 [.loc 2,.d x] (ik μ I) Q:=by
 have hl1:l.length<=lim:=iL hl
 have hl0:0<l.length:=List.length_pos_iff.mpr h0
 have hm:l.length<=10^90:=tr hl rfl
 rcases hx with rfl|rfl
 ·exact B_ ⟨hl1,cf hk hI hB hl0 hm fun y I' hy hI'=>ah (List.getElem?_eq_getElem hy) hl1 (lG hk (q _ (List.getElem_mem hy) _ hI'))⟩
 ·exact B_ ⟨hl1,cf hk hI hB hl0 hm fun y I' hy hI'=>⟨Int.natCast_nonneg _,ah (List.getElem?_eq_getElem hy) hl1 (lG hk (q _ (List.getElem_mem hy) _ hI'))⟩⟩
theorem az{T:List Nat}(hT:∀c∈T,c<256)(hl:T.length<=lim)(q:Q (.bytes (aa T)) μ):ae (n+1) 87 [.str T] μ Q:=
 Bj (id_map hl (aQ (fun c:Nat=>D.int (c:Int)) rfl hl (fun c hc K hK=>hK) (GH (lh (fun c:Nat=>c) T hT) (by rw[TN];exact hl) (ab q))))
noncomputable def bS(U:List Nat)(w:List UInt8):Prop:=w=aa U\/w=aa (ax U)\/w=aa (U.take 1++ax (U.drop 1))
theorem OY{α:Type}(l:List α):cut l none (some 1)=l.take 1:=by
 have e1:clip 1 l.length=min 1 l.length:=by simp only[clip];split<;>omega
 simp only[cut,pf,rY,e1,List.drop_zero]
 cases l with
 |nil=>rfl
 |cons a l=>rw[List.length_cons,Nat.min_eq_left (Nat.succ_le_succ (Nat.zero_le _))]
theorem yQ{l:List Nat}(h:∀c∈l,c<128):∀c∈ax l,c<128:=fun c hc=>let⟨a,ha,e⟩:=List.mem_map.mp hc;e▸jd (h a ha) (TF rfl)
theorem gC{U:List Nat}(hk:3<=μ.length)(hI:cj B I)(hB:B<=10^80)(hU:∀c∈U,c<128)(hl:U.length<=1000)(q:∀w,bS U w->∀I',cj (B+1) I'->Q (.bytes w) (ik μ I')):ae (n+3) 88 [.loc 2,.str U] (ik μ I) Q:=by
 have hl1:U.length<=lim:=iL hl
 have hd:(U.drop 1).length<=1000:=by rw[List.length_drop];exact Ta (Nat.sub_le ..) hl
 have PZ:∀c∈U.drop 1,c<128:=fun c hc=>hU c (List.mem_of_mem_drop hc)
 have ht:(U.take 1).length<=1:=List.length_take_le ..
 have hd2:(ax (U.drop 1)).length<=1000:=by rw[ax,TN];exact hd
 have go:∀A C:List Nat,A=U.take 1->C=U.drop 1->ae (n+2) 86 [.loc 2,.d (.tuple [.str U,.str (ax U),.str (A++ax C)])] (ik μ I) (J2 (eL (n+2) [] ⟨[some (.loc 2),some (.str U)],[]⟩) (MP (n+2) (.fn 87) (NR ⟨[some (.loc 2),some (.str U)],[]⟩ (Az (aA (n+2) []) (aR (ik μ I) Q))))):=by
  rintro A C rfl rfl
  refine dF (l:=[.str U,.str (ax U),.str (U.take 1++ax (U.drop 1))]) hk hI hB (.inl rfl) nofun (TF rfl) fun y hy I' hI'=>?_
  have fin {W:List Nat} (hW:∀c∈W,c<128) (hS:bS U (aa W)) (hw:W.length<=1001):ae (n+2) 87 [.str W] (ik μ I') (NR ⟨[some (.loc 2),some (.str U)],[]⟩ (Az (aA (n+2) []) (aR (ik μ I) Q))):=
   az (fun c hc=>Nat.lt_trans (hW c hc) (by decide)) (tr hw rfl) (lG hk (q _ hS _ hI'))
  cases hy with
  |head=>exact fin hU (.inl rfl) (Nat.le_succ_of_le hl)
  |tail _ hy=>cases hy with
   |head=>exact fin (yQ hU) (.inr (.inl rfl)) (by rw[ax,TN];exact Nat.le_succ_of_le hl)
   |tail _ hy=>cases hy with
    |head=>exact fin (fun c hc=>(List.mem_append.mp hc).elim (fun h=>hU c (List.mem_of_mem_take h)) (yQ PZ c)) (.inr (.inr rfl)) (tr (la ht hd2) rfl)
    |tail _ hy=>cases hy
 have e1:=OY U
 have e2:=JV U
 refine F7 ⟨hU,hl,hl1,hl1,e2▸PZ,e2▸hd,?_,TF rfl,go _ _ e1 e2⟩
 show(cut U none (some 1)).length+(ax (cut U (some 1) none)).length<=lim
 rw[e1,e2]
 exact ll ht hd2 rfl
end
section
variable{n:Nat}{μ:Mu}{I:gF}{k B:Nat}{Q:KV}
noncomputable def bo(m z:Nat):List UInt8:=aa (List.replicate z 48++dec m)
theorem Pk{y:Int}{z c:Nat}(e:y=(z:Int))(hz:z<=1000)(q:Q (.str (List.replicate z c)) μ):0<=y/\y<=1000/\Q (.str (List.replicate y.toNat c)) μ:=by
 subst e;exact⟨Int.natCast_nonneg _,cN hz,q⟩
theorem eV(hk:3<=μ.length)(hI:cj B I)(hB:B+5<=10^80)(q:∀m z I',m<10^19->z+(dec m).length<=19->cj (B+5) I'->Q (.d (.tuple [.int ((m:Nat):Int),.bytes (bo m z),.bytes (bI m)])) (ik μ I')):ae (n+3) 89 [.loc 2,.int 19] (ik μ I) Q:=by
 have b (i:Nat) (hi:i<=5):B+i<=10^80:=Ta (Nat.add_le_add_left hi B) hB
 refine A5 (cf (m:=10) hk hI (b 0 (by decide)) (by decide) (TF rfl) fun d1 I1 h1 hI1=>⟨rfl,by decide,by decide,cf (m:=1000) hk hI1 (b 1 (by decide)) (by decide) (TF rfl) fun d2 I2 h2 hI2=>⟨rfl,by decide,by decide,
  cf (m:=10^19) hk hI2 (b 2 (by decide)) (by decide) (TF rfl) fun d3 I3 h3 hI3=>⟨TF rfl,dF (l:=[.int (d1:Int),.int ((10:Int)^19-1-(d2:Int)),.int (d3:Int)]) hk hI3 (b 3 (by decide)) (.inl rfl) nofun (TF rfl) fun y hy I4 hI4=>?_⟩⟩⟩)
 obtain⟨m,rfl,hm⟩:∃m:Nat,y=.int (m:Int)/\m<10^19:=by
  cases hy with
  |head=>exact⟨_,rfl,Nat.lt_trans h1 (by decide)⟩
  |tail _ hy=>cases hy with
   |head=>exact⟨10^19-1-d2,congrArg D.int (by omega),by omega⟩
   |tail _ hy=>cases hy with
    |head=>exact⟨_,rfl,h3⟩
    |tail _ hy=>cases hy
 have hdl:=eC (k:=19) (by decide) hm
 have hl1:(dec m).length<=lim:=tr hdl rfl
 refine⟨Int.natCast_nonneg _,MD (Nat.lt_trans hm (TF rfl)),cf (m:=3) hk hI4 (b 4 (by decide)) (by decide) (TF rfl) fun d4 I5 h4 hI5=>⟨hl1,?_⟩⟩
 have e2:min (d4:Int) (19-((dec m).length:Int))=((min d4 (19-(dec m).length):Nat):Int):=by omega
 have hz:min d4 (19-(dec m).length)+(dec m).length<=19:=Ta (Nat.add_le_add_right (Nat.min_le_right ..) _) (Nat.le_of_eq (Nat.sub_add_cancel hdl))
 generalize min d4 (19-(dec m).length)=z at e2 hz
 have e4:(List.replicate z 48).length+(dec m).length<=19:=by rw[List.length_replicate];exact hz
 have h8:∀c∈dec m,c<256:=fun c hc=>Nat.lt_trans (dec_lt hc) (by decide)
 exact Pk e2 (Ta (Nat.le_add_right ..) (tr hz rfl)) ⟨tr e4 rfl,az (fun c hc=>(List.mem_append.mp hc).elim (fun h=>(List.mem_replicate.mp h).2▸TF rfl) (h8 c)) (by rw[TM];exact tr e4 rfl)
  (az h8 hl1 ⟨TF rfl,lG hk (q m z _ hm hz hI5)⟩)⟩
end
section
theorem Jv(c:UInt8)(y a b:List UInt8):cW c y (a++b)=cW c y a++cW c y b:=List.flatMap_append
theorem zp(l:List UInt8):cW 34 [92,34] (cW 92 [92,92] l)=jw l:=by
 induction l with
 |nil=>rfl
 |cons c l ih=>
  have e1:cW 92 [92,92] (c::l)=(if c=92 then[92,92]else[c])++cW 92 [92,92] l:=List.flatMap_cons
  rw[e1,Jv,ih]
  by_cases h1:c=92
  ·subst h1;rfl
  ·rw[if_neg h1]
   by_cases h2:c=34
   ·subst h2;rfl
   ·rw[DD fun e=>e.elim h2 h1]
    exact congrArg (·++jw l) ((List.append_nil _).trans (if_neg h2))
theorem wj{o:List UInt8}(h:o∈bY):o.length<=100:=(by decide+kernel:∀o∈bY,o.length<=100) o h
theorem FK{o:List UInt8}(h:o∈bY):(o,92,[92,92])∈lA:=List.mem_append_left _ (List.mem_map.mpr ⟨o,h,rfl⟩)
theorem Fd{o:List UInt8}(h:o∈bY):(cW 92 [92,92] o,34,[92,34])∈lA:=List.mem_append_right _ (List.mem_map.mpr ⟨o,h,rfl⟩)
noncomputable def sI(c:UInt8):Bool:= !(decide ((0:Int)<c.toNat)&&decide ((c.toNat:Int)<128))||decide ((c.toNat:Int)∈[(10:Int),13])
noncomputable def sZ(c:UInt8):Bool:= !(decide ((31:Int)<c.toNat)&&decide ((c.toNat:Int)<127))
noncomputable def AN(o:List UInt8):List UInt8:=123::(bI o.length++(43::125::13::10::o))
noncomputable def yh(o:List UInt8):List UInt8:=34::(jw o++[34])
noncomputable def eN(b:UInt8->Bool)(o:List UInt8):Bool:=((o.filter b).map fun c=>D.int (c.toNat:Int)).isEmpty
noncomputable def iK(o:List UInt8):List (List UInt8):=kd o::AN o::cond (eN sI o) [yh o] []
noncomputable def lM(o:List UInt8):List UInt8:=cond (decide ((o.length:Int)<=72)&&eN sZ o) (yh o) (kd o)
section
variable{n:Nat}{μ:Mu}{I:gF}{k B:Nat}{Q:KV}{o:List UInt8}
theorem qC(ho:o∈bY)(q:Q (.bytes (yh o)) μ):ae (n+1) 90 [.bytes o] μ Q:=by
 have h2:(jw o).length<=200:=Ta (rr o) (Nat.mul_le_mul_left 2 (wj ho))
 refine A7 ⟨FK ho,Fd ho,?_⟩
 rw[zp]
 exact⟨ll (TG _) h2 rfl,ll (la (TG _) h2) (TG _) rfl,ab q⟩
theorem K6{F:List (List UInt8)}{v2:Option V}{P:D}{b:Bool}(hk:3<=μ.length)(hI:cj B I)(hB:B+1<=10^80)(ho:o∈bY)(hF3:F.length<=3)(hF0:F≠[])(q:∀t∈F,∀I',cj (B+1) I'->Q (.d (.tuple [.bytes o,.bytes t,.bytes (cond b (yh o) (kd o))])) (ik μ I')):
  aA (n+2) (c_.body.drop 4) ⟨[some (.loc 2),some (.bytes o),v2,some (.d (.list [.bytes (kd o),P])),some (.d (.list (F.map .bytes))),some (.bool b)],[]⟩ (ik μ I) (aR (ik μ I) Q):=by
 have hl:(F.map D.bytes).reverse.length<=3:=by rw[List.length_reverse,TN];exact hF3
 refine⟨by rw[TN];exact tr hF3 rfl,dF hk hI (Nat.le_of_succ_le hB) (.inr rfl) (fun e=>hF0 (List.map_eq_nil_iff.mp (List.reverse_eq_nil_iff.mp e))) (tr hl rfl) fun y hy I' hI'=>?_⟩
 obtain⟨t,ht,rfl⟩:=List.mem_map.mp (List.mem_reverse.mp hy)
 have q:=q t ht I' hI'
 cases b with
 |true=>exact qC ho ⟨TF rfl,lG hk q⟩
 |false=>exact⟨Int.le_refl _,ah (a:=0) rfl (TF rfl) ⟨TF rfl,lG hk q⟩⟩
set_option maxRecDepth 4000 in
theorem Kr{c:UInt8}{K:KB}(hK:K (sZ c) μ):eT n (.not (.val (.iX (.const (.d (.int 31))) .lt (.lv 1) .lt (.const (.d (.int 127)))))) ⟨[none,some (oc c)],[]⟩ μ K:=by
 by_cases p1:(31:Int)<c.toNat
 ·by_cases p2:(c.toNat:Int)<127
  ·rw[sZ,decide_eq_true p1,decide_eq_true p2] at hK;exact ak p1 (ak p2 hK)
  ·rw[sZ,decide_eq_false p2,Bool.and_false] at hK;exact ak p1 (ai p2 hK)
 ·rw[sZ,decide_eq_false p1] at hK;exact ai p1 hK
set_option maxRecDepth 4000 in
theorem J8{c:UInt8}{K:KB}(hK:K (sI c) μ):eT n (.bool false [(.not (.val (.iX (.const (.d (.int 0))) .lt (.lv 1) .lt (.const (.d (.int 128)))))),(.val (.cmp (.lv 1) .mem (.tuple [(.const (.d (.int 10))),(.const (.d (.int 13)))])))]) ⟨[none,some (oc c)],[]⟩ μ K:=by
 by_cases p1:(0:Int)<c.toNat
 ·by_cases p2:(c.toNat:Int)<128
  ·rw[sI,decide_eq_true p1,decide_eq_true p2] at hK;exact ak p1 (ak p2 ⟨TF rfl,RH (c:=false) (Q:=fun b=>K b μ) (by rw[Bool.or_false];exact hK)⟩)
  ·rw[sI,decide_eq_false p2,Bool.and_false] at hK;exact ak p1 (ai p2 hK)
 ·rw[sI,decide_eq_false p1] at hK;exact ai p1 hK
theorem C9{b:UInt8->Bool}{t:Ts}{Q:KV}(hl:o.length<=lim)(ht:∀(c:UInt8) (K:KB),K (b c) μ->eT n t ⟨[none,some (oc c)],[]⟩ μ K)(q:Q (.bool (eN b o)) μ):
  L3 (DO n false (.lv 1) (.lv 1) [t] 2 0 (some []) (OL (eE n (.list false []) ⟨[],[]⟩) .eq Q)) μ (o.map fun c=>D.int (c.toNat:Int)):=by
 refine id_map hl ?_
 rw[List.map_map]
 exact mz (by rw[TN];exact hl) (vJ oc (fun c:UInt8=>D.int (c.toNat:Int)) b rfl o .same (fun c hc K hK=>ht c K hK) (fun c hc K hK=>hK) (ab ⟨Nat.zero_le _,q⟩))
theorem mh(hk:3<=μ.length)(hI:cj B I)(hB:B+1<=10^80)(ho:o∈bY)(q:∀t∈iK o,∀I',cj (B+1) I'->Q (.d (.tuple [.bytes o,.bytes t,.bytes (lM o)])) (ik μ I')):ae (n+3) 91 [.loc 2,.bytes o] (ik μ I) Q:=by
 have hl:=wj ho
 have hl1:o.length<=lim:=tr hl rfl
 have hd:(bI o.length).length<=3:=iS (by decide) (Nat.lt_of_le_of_lt hl (by decide))
 have hde:(dec o.length).length<=3:=eC (by decide) (Nat.lt_of_le_of_lt hl (by decide))
 have last (F:List (List UInt8)) (hF:F=iK o) {v2:Option V} {P:D} {b:Bool} (hb:lM o=cond b (yh o) (kd o)):aA (n+2) (c_.body.drop 4) ⟨[some (.loc 2),some (.bytes o),v2,some (.d (.list [.bytes (kd o),P])),some (.d (.list (F.map .bytes))),some (.bool b)],[]⟩ (ik μ I) (aR (ik μ I) Q):=by
  rw[hb] at q
  subst hF
  refine K6 hk hI hB ho ?_ nofun q
  unfold iK
  cases eN sI o<;>exact TF rfl
 have four (F:List (List UInt8)) (hF:F=iK o) {v2:Option V} {P:D}:aA (n+2) (c_.body.drop 3) ⟨[some (.loc 2),some (.bytes o),v2,some (.d (.list [.bytes (kd o),P])),some (.d (.list (F.map .bytes))),none],[]⟩ (ik μ I) (aR (ik μ I) Q):=by
  by_cases h7:(o.length:Int)<=72
  ·exact⟨hl1,ak h7 (C9 hl1 (fun c K hK=>Kr hK) (last F hF (by rw[lM,decide_eq_true h7,Bool.true_and])))⟩
  ·exact⟨hl1,ai h7 (last F hF (by rw[lM,decide_eq_false h7,Bool.false_and]))⟩
 have three {v2:Option V} (A P:List UInt8) (hA:A=kd o) (hP:P=AN o):aA (n+2) (c_.body.drop 2) ⟨[some (.loc 2),some (.bytes o),v2,some (.d (.list [.bytes A,.bytes P])),none,none],[]⟩ (ik μ I) (aR (ik μ I) Q):=by
  subst hA hP
  refine C9 hl1 (fun c K hK=>J8 hK) ?_
  cases hb:eN sI o with
  |true=>exact qC ho ⟨TF rfl,TF rfl,four [kd o,AN o,yh o] (by rw[iK,hb];rfl)⟩
  |false=>exact⟨Nat.zero_le _,TF rfl,four [kd o,AN o] (by rw[iK,hb];rfl)⟩
 have z1:([123]++bI o.length).length<=1+3:=la (TG _) hd
 have eA:[123]++bI o.length++[125,13,10]++o=kd o:=by rw[TP,TP];rfl
 have eP:[123]++bI o.length++[43,125,13,10]++o=AN o:=by rw[TP,TP];rfl
 exact AU ⟨hl1,Int.natCast_nonneg _,MD (Nat.lt_of_le_of_lt hl (TF rfl)),az (fun c hc=>Nat.lt_trans (dec_lt hc) (by decide)) (tr hde rfl)
  ⟨ll (TG _) hd rfl,ll z1 (TG _) rfl,ll (la z1 (TG _)) hl rfl,ll (TG _) hd rfl,ll z1 (TG _) rfl,ll (la z1 (TG _)) hl rfl,TF rfl,three _ _ eA eP⟩⟩
end
end
section
theorem iT{α ι:Type}{n:Nat}{elt:Ex}{i:Nat}{cs:List Nat}{μ:Mu}(C:Nat)(out:α->D)(P:α->Prop)(val:ι->V){vs0:List (Option V)}(hi:iE vs0 i=true)(l:List ι):
  ∀{vs:List (Option V)} {B:Nat} {I:gF} {Q:KD},Var vs0 i vs->cj B I->B+l.length*C<=10^80->
  (∀x∈l,∀(B:Nat) (I:gF) (K:KV),cj B I->B+C<=10^80->(∀a I',P a->cj (B+C) I'->K (.d (out a)) (ik μ I'))->eE n elt ⟨du vs0 i (val x),cs⟩ (ik μ I) K)->
  (∀(as:List α) I',as.length=l.length->(∀a∈as,P a)->cj (B+l.length*C) I'->Q (as.map out) (ik μ I'))->wC n elt (.lv i) [] (l.map val) none ⟨vs,cs⟩ (ik μ I) Q:=by
 induction l with
 |nil=>exact fun hv hI hB h q=>fJ ay (q [] _ rfl nofun (hI.mono (Nat.le_add_right ..)))
 |cons x l ih=>
  intro vs B I Q hv hI hB h q
  have hc:B+(x::l).length*C=B+C+l.length*C:=by rw[List.length_cons,Nat.succ_mul,Nat.add_comm (l.length*C),Nat.add_assoc]
  rw[hc] at hB q
  exact bZ ay (x9 hv hi (h x (.head _) B I _ hI (Ta (Nat.le_add_right ..) hB) fun a I' ha hI'=>ih (Q:=fun ds=>Q (out a::ds)) (.set _) hI' hB (fun y hy=>h y (.tail _ hy)) fun as I2 has hP hI2=>
   q (a::as) I2 (congrArg Nat.succ has) (fun z hz=>(List.mem_cons.mp hz).elim (fun e=>e▸ha) (hP z)) hI2))
section
variable{n:Nat}{μ:Mu}{I:gF}{k B:Nat}{Q:KV}
noncomputable def CY:List (List UInt8):=[[112,108,97,105,110],[],[97,34,98,92],[108,13,10,114],[110,105,108],[116,9,98],[0,255],List.replicate 72 121,List.replicate 100 122]
theorem Hn{o:List UInt8}(h:o∈CY):o∈bY:=(by decide+kernel:∀o∈CY,o∈bY) o h
theorem yP(q:Q (.d (.tuple (CY.map .bytes))) μ):ae (n+1) 83 [] μ Q:=xu ⟨by decide,by decide,by decide,by decide,TF rfl,ab q⟩
theorem cM(a b:List Nat):aa (a++b)=aa a++aa b:=List.map_append
theorem uq(s:List Nat):∀(L:List (List Nat)),aa (aq s L)=aq (aa s) (L.map aa)
 |[]=>rfl
 |[x]=>rfl
 |x::y::r=>by rw[aq,cM,cM,uq s (y::r)];rfl
noncomputable abbrev flagWords:List (List Nat):=[[92,83,101,101,110],[92,42],[36,77,105,110,101],[49,50],[78,73,76]]
theorem iO{α:Type}(s:List α){M:Nat}(hs:s.length<=10):∀(L:List (List α)),(∀t∈L,t.length<=M)->(aq s L).length<=L.length*(M+10)
 |[],_=>Nat.zero_le _
 |[x],h=>(Nat.one_mul (M+10)).symm▸Ta (h x (.head _)) (Nat.le_add_right ..)
 |x::y::r,h=>by
  have h2:=iO s hs (y::r) (fun t ht=>h t (.tail _ ht))
  rw[aq,TM,TM,List.length_cons,Nat.succ_mul,Nat.add_comm]
  exact Nat.add_le_add h2 (Nat.add_le_add (h x (.head _)) hs)
theorem yV{α:Type}{s:List α}{c:α}:∀(L:List (List α)),c∈aq s L->c∈s\/∃t∈L,c∈t
 |[],h=>nomatch h
 |[x],h=>.inr ⟨x,.head _,h⟩
 |x::y::r,h=>by
  rw[aq] at h
  exact(List.mem_append.mp h).elim (fun h=>(List.mem_append.mp h).elim (fun h=>.inr ⟨x,.head _,h⟩) .inl) fun h=>(yV (y::r) h).imp_right fun⟨t,ht,hc⟩=>⟨t,.tail _ ht,hc⟩
theorem fb{w:List Nat}(h:w∈flagWords):(∀c∈w,c<128)/\w.length<=10/\w≠[]/\∀c∈aa w,dU c.toNat=true/\c≠13:=(by decide:∀w∈flagWords,(∀c∈w,c<128)/\w.length<=10/\w≠[]/\∀c∈aa w,dU c.toNat=true/\c≠13) w h
theorem k3{x:aI}(h:3<=μ.length):3<=(μ++[x]).length:=by rw[TM];exact Nat.le_succ_of_le h
theorem Nl{L:List (List Nat)}(hL:∀t∈L,∀c∈t,c<128):∀c∈[40]++aq [32] L++[41],c<256:=fun c hc=>
 (List.mem_append.mp hc).elim (fun h=>(List.mem_append.mp h).elim (fun h=>List.eq_of_mem_singleton h▸TF rfl) fun h=>(yV L h).elim (fun h=>List.eq_of_mem_singleton h▸TF rfl) fun⟨t,ht,h⟩=>Nat.lt_trans (hL t ht c h) (by decide)) fun h=>List.eq_of_mem_singleton h▸TF rfl
theorem Nx(L:List (List Nat)):aa ([40]++aq [32] L++[41])=ar (L.map aa):=by rw[cM,cM,uq];rfl
theorem Kk(ws:List (List Nat)):strsOf (ws.map D.str)=some ws:=(fq (fun w=>w) ws).trans (congrArg some (List.map_id' ws))
theorem oB(hk:3<=μ.length)(hI:cj B I)(hB:B+10<=10^80)(q:∀(ws:List (List Nat)) I',ws.length<=3->(∀w∈ws,w∈flagWords)->cj (B+10) I'->Q (.d (.tuple [.tuple (ws.map .str),.tuple (ws.map fun w=>.tuple [.str dE,.str w]),.bytes (ar (ws.map aa))])) (ik μ I')):ae (n+4) 93 [.loc 2] (ik μ I) Q:=by
 have hk':3<=(μ++[aI.cell (some (V.loc 2))]).length:=k3 hk
 refine D6 ?_
 rw[cn,dZ hk]
 refine fs hk (cf (m:=4) hk' hI (Ta (Nat.le_add_right ..) hB) (by decide) (TF rfl) fun c I1 hc hI1=>⟨Int.natCast_nonneg _,Int.ofNat_le.mpr (Ta (Nat.le_of_lt hc) (TF rfl)),?_⟩)
 have hm:(List.range c).length<=3:=by rw[List.length_range];exact Nat.le_of_lt_succ hc
 have hm1:B+1+(List.range c).length*1<=B+10:=by omega
 refine mz (by rw[TN];exact tr hm rfl) (iT 1 (fun w:List Nat=>D.str w) (fun w=>w∈flagWords) (fun i:Nat=>V.int (i:Int)) rfl (List.range c) .same hI1 (Ta hm1 hB) (fun x hx B2 I2 K hI2 hB2 hK=>?_) (fun ws I3 hws hW hI3=>lG hk' ?_))
 ·refine fs hk ⟨TF rfl,dF (l:=flagWords.map .str) hk' hI2 (Nat.le_of_succ_le hB2) (.inl rfl) nofun (TF rfl) fun y hy I' hI'=>?_⟩
  obtain⟨w,hw,rfl⟩:=List.mem_map.mp hy
  exact hK w I' hw hI'
 ·have hws:ws.length<=3:=hws▸hm
  have hj:(aq [32] ws).length<=60:=Ta (iO [32] (M:=10) (by decide) ws (fun t ht=>(fb (hW t ht)).2.1)) (Nat.mul_le_mul_right 20 hws)
  have hwl:ws.length<=lim:=tr hws rfl
  refine dA (Kk ws) ⟨tr (Nat.add_le_add_right hj 1) rfl,ll (TG _) hj rfl,ll (la (TG _) hj) (TG _) rfl,az (Nl fun t ht=>(fb (hW t ht)).1) (tr (la (la (TG _) hj) (TG _)) rfl) ?_⟩
  rw[Nx]
  exact⟨by rw[TN];exact hwl,id_map hwl (aQ (fun w:List Nat=>D.tuple [.str dE,.str w]) rfl hwl (fun w hw K hK=>⟨TF rfl,hK⟩) ⟨by rw[TN];exact hwl,TF rfl,gQ hk (q ws I3 hws hW (hI3.mono hm1))⟩)⟩
end
end
section
structure Row where
 told:D
 free:List UInt8
 plain:List UInt8
noncomputable abbrev Row.d(w:Row):D:=.tuple [w.told,.bytes w.free,.bytes w.plain]
noncomputable def LB(r:Nat):Nat:=250*4^r
theorem LJ(r:Nat):250<=LB r:=Nat.le_mul_of_pos_right _ (Nat.pow_pos (Nat.zero_lt_succ 3))
theorem IY(r:Nat):LB (r+1)=4*LB r:=by rw[LB,LB,Nat.pow_succ,<-Nat.mul_assoc,Nat.mul_comm]
theorem lb{a:Nat}(r:Nat)(h:a<=250):a<=LB r:=Ta h (LJ r)
noncomputable def n_(r:Nat)(w:Row):Prop:=∃d,cY r d w.free/\cY r d w.plain/\Tells r d w.told/\sG r d w.plain/\Frag w.free/\Frag w.plain/\w.free.length<=LB r/\w.plain.length<=LB r
noncomputable abbrev My:List UInt8:=[78,73,76]
noncomputable abbrev H9:List (List UInt8):=[My,pI,[78,105,108]]
theorem FU(r:Nat){t:List UInt8}(ht:t∈H9):n_ r ⟨.none,t,My⟩:=
 have hall:∀t∈H9,j4 t/\t≠[]/\t.map eH=pI/\(∀c∈t,c≠13)/\t.length<=250:=by decide
 have h:=hall t ht
 have h':=hall My (.head _)
 ⟨.none,.plain r t _ (.nil h.2.2.1) h.1 h.2.1,.plain r _ _ (.nil h'.2.2.1) h'.1 h'.2.1,.none r,.none r,.plain h.2.2.2.1,.plain h'.2.2.2.1,lb r h.2.2.2.2,lb r h'.2.2.2.2⟩
theorem mB(m z:Nat):bo m z=List.replicate z 48++bI m:=by rw[bo,cM,aa,List.map_replicate];rfl
theorem bN(m z:Nat):dJ (bo m z):=by
 rw[mB]
 exact fun c hc=>(List.mem_append.mp hc).elim (fun h=>(List.mem_replicate.mp h).2▸rfl) (bH m c)
theorem gA(m z:Nat):bo m z≠[]:=by
 rw[mB]
 exact fun e=>fe m (List.append_eq_nil_iff.mp e).2
theorem fm(m z:Nat):numOf (bo m z)=m:=by rw[mB,Dq,fg]
theorem o6(m z:Nat):(bo m z).length=z+(dec m).length:=by rw[bo,aL,TM,List.length_replicate]
theorem fR{t:List UInt8}(h:dJ t):∀c∈t,c≠13:=fun c hc e=>by
 have:=h c hc
 rw[e] at this
 cases this
theorem G1{t:List UInt8}(h:dJ t):t.map eH≠pI:=by
 cases t with
 |nil=>exact nofun
 |cons c t=>
  intro e
  have hf:=si (h c (.head _))
  have e1:(eH c).toNat=110:=congrArg UInt8.toNat (List.cons.inj e).1
  rw[eH,lowerCode,if_neg (fun e=>absurd (Ta e.1 hf.2) (by decide)),P0 (u8 c)] at e1
  rw[e1] at hf
  exact absurd hf.2 (by decide)
theorem Cd(r:Nat){t:List UInt8}(h:dJ t)(h0:t≠[])(h9:t.length<=19):cY r (.int (numOf t:Nat)) t:=.plain r t _ (.num (G1 h) h h9) (fun c hc=>Ki (h c hc)) h0
theorem HO(r:Nat){m z:Nat}(hm:m<10^19)(hz:z+(dec m).length<=19):n_ r ⟨.int (m:Int),bo m z,bI m⟩:=by
 have h1:(bI m).length<=19:=iS (by decide) hm
 have h2:(bo m z).length<=19:=by rw[o6];exact hz
 have v1:=Cd r (bN m z) (gA m z) h2
 have v2:=Cd r (bH m) (fe m) h1
 rw[fm] at v1
 rw[fg] at v2
 exact⟨_,v1,v2,.int r _,.int r m (Nat.lt_trans hm (TF rfl)),.plain (fR (bN m z)),.plain (fR (bH m)),lb r (tr h2 rfl),lb r (tr h1 rfl)⟩
noncomputable abbrev kZ:List (List Nat):=[[92,83,101,101,110],[49,58,51],[97,45,98],[120,46,89],[78,73,76,83]]
theorem Dg(r:Nat){w:List Nat}(hw:w∈kZ):n_ r ⟨.tuple [.str dE,.str w],aa w,aa w⟩:=by
 have hall:∀w∈kZ,(∀c∈w,c<128)/\j4 (aa w)/\aa w≠[]/\(aa w).map eH≠pI/\zR (aa w)=false/\(∀c∈aa w,c≠13)/\(aa w).length<=250/\w.length<=1000:=by decide
 obtain⟨h1,h2,h3,h4,h5,h6,h7,h8⟩:=hall w hw
 have hv:=cY.plain r (aa w) _ (.atom h4 h5) h2 h3
 rw[qE fun c hc=>Nat.lt_trans (h1 c hc) (by decide)] at hv
 exact⟨.atom w,hv,hv,.atom r w,.atom r w h1 h8,.plain h6,.plain h6,lb r h7,lb r h7⟩
section
variable{o t:List UInt8}
theorem Ew(ho:o.length<=100):(bI o.length).length<=3:=iS (by decide) (Nat.lt_of_le_of_lt ho (by decide))
noncomputable abbrev EN(o t:List UInt8):Prop:=gW o t/\Frag t/\t.length<=210
theorem HJ(ho:o.length<=100):EN o (kd o):=by
 have f:=Frag.lit (bI o.length) [] o [] (bH _) (fe _) (tr (Ew ho) rfl) (fg _) (.inl rfl) .nil
 rw[List.append_nil] at f
 exact⟨.lit _ (bH _) (fe _) (tr (Ew ho) rfl) (fg _),f,tr (Nat.succ_le_succ (la (Ew ho) (Nat.add_le_add_right ho 3))) rfl⟩
theorem JL(ho:o.length<=100):EN o (AN o):=by
 have f:=Frag.lit (bI o.length) [43] o [] (bH _) (fe _) (tr (Ew ho) rfl) (fg _) (.inr rfl) .nil
 rw[List.append_nil] at f
 exact⟨.litp _ (bH _) (fe _) (tr (Ew ho) rfl) (fg _),f,tr (Nat.succ_le_succ (la (Ew ho) (Nat.add_le_add_right ho 4))) rfl⟩
theorem Nw(h:∀c∈o,dC c):∀c∈jw o,c≠13:=by
 induction o with
 |nil=>exact nofun
 |cons a l ih=>
  have ih:=ih fun c hc=>h c (.tail _ hc)
  have ha:=(h a (.head _)).2.2.1
  by_cases e:a=34\/a=92
  ·rw[G7 e]
   exact fun c hc=>(List.mem_cons.mp hc).elim (fun e=>e▸nofun) fun hc=>(List.mem_cons.mp hc).elim (fun e=>e▸ha) (ih c)
  ·rw[DD e]
   exact fun c hc=>(List.mem_cons.mp hc).elim (fun e=>e▸ha) (ih c)
theorem GG(ho:o.length<=100)(h:∀c∈o,dC c):EN o (yh o):=
 ⟨.quoted h,.chr 34 _ nofun ((Frag.plain (Nw h)).app (.chr 34 _ nofun .nil)),tr (Nat.succ_le_succ (la (Ta (rr o) (Nat.mul_le_mul_left 2 ho)) (TG 1))) rfl⟩
theorem none_of{b:UInt8->Bool}(h:eN b o=true):∀c∈o,b c=false:=fun c hc=>Bool.eq_false_iff.mpr (List.filter_eq_nil_iff.mp (List.map_eq_nil_iff.mp (List.isEmpty_iff.mp h)) c hc)
theorem not_of{b:Bool}(h:(!b)=false):b=true:=by cases b with|true=>rfl|false=>cases h
theorem NO{c:UInt8}(h:sI c=false):dC c:=by
 have h:=Bool.or_eq_false_iff.mp h
 have h1:=Bool.and_eq_true_iff.mp (not_of h.1)
 have h2:=of_decide_eq_false h.2
 exact⟨Int.ofNat_lt.mp (of_decide_eq_true h1.1),Nat.le_of_lt_succ (Int.ofNat_lt.mp (of_decide_eq_true h1.2)),fun e=>h2 (e▸.tail _ (.head _)),fun e=>h2 (e▸.head _)⟩
theorem uo(c:UInt8):sZ c= !cU c.toNat:=
 congrArg not (congr (congrArg and (decide_eq_decide.mpr Iff.rfl)) (decide_eq_decide.mpr (Int.lt_add_one_iff (b:=126))))
theorem L4{c:UInt8}(h:sZ c=false):dC c:=by
 have h1:=Bool.and_eq_true_iff.mp (not_of h)
 have a:31<c.toNat:=Int.ofNat_lt.mp (of_decide_eq_true h1.1)
 exact⟨Nat.lt_trans (by decide) a,Nat.le_of_lt (Int.ofNat_lt.mp (of_decide_eq_true h1.2)),fun e=>absurd (e▸a) (by decide),fun e=>absurd (e▸a) (by decide)⟩
theorem qr(ho:o.length<=100)(ht:t∈iK o):EN o t:=by
 cases ht with
 |head=>exact HJ ho
 |tail _ ht=>cases ht with
  |head=>exact JL ho
  |tail _ ht=>
   cases hb:eN sI o with
   |true=>
    rw[hb] at ht
    exact List.eq_of_mem_singleton ht▸GG ho fun c hc=>NO (none_of hb c hc)
   |false=>rw[hb] at ht;cases ht
theorem A2(o:List UInt8):lM o=md o:=by
 have h:eN sZ o=(o.map fun c=>cU c.toNat).all id:=by
  induction o with
  |nil=>rfl
  |cons c l ih=>
   cases ht:cU c.toNat with
   |true=>rw[eN,List.filter_cons_of_neg (by rw[uo,ht];exact nofun),List.map_cons,ht];exact ih
   |false=>rw[eN,List.filter_cons_of_pos (by rw[uo,ht];rfl),List.map_cons (f:=fun c:UInt8=>cU c.toNat),ht];rfl
 rw[lM,md,isQ,h];rfl
theorem wz(ho:o.length<=100):EN o (lM o):=by
 unfold lM
 cases hb:decide ((o.length:Int)<=72)&&eN sZ o with
 |true=>exact GG ho fun c hc=>L4 (none_of (Bool.and_eq_true_iff.mp hb).2 c hc)
 |false=>exact HJ ho
end
end
theorem H'(r:Nat){o t:List UInt8}(ho:o.length<=100)(ht:t∈iK o):n_ r ⟨.bytes o,t,lM o⟩:=
 have a:=qr ho ht
 have b:=wz ho
 ⟨.bytes o,.str r o t a.1,.str r o _ b.1,.bytes r o,(A2 o).symm▸.bytes r o (tr ho rfl),a.2.1,b.2.1,lb r (tr a.2.2 rfl),lb r (tr b.2.2 rfl)⟩
theorem yD{α β:Type}{P:α->β->Prop}:∀(as:List α),(∀a∈as,∃b,P a b)->∃L:List (α×β),L.map (·.1)=as/\∀x∈L,P x.1 x.2
 |[],_=>⟨[],rfl,nofun⟩
 |a::as,h=>
  let⟨b,hb⟩:=h a (.head _)
  let⟨L,e,hL⟩:=yD as fun x hx=>h x (.tail _ hx)
  ⟨(a,b)::L,congrArg (a::·) e,fun x hx=>(List.mem_cons.mp hx).elim (fun e=>e▸hb) (hL x)⟩
theorem qM(s:List UInt8)(hs:∀c∈s,c≠13):∀(L:List (List UInt8)),(∀t∈L,Frag t)->Frag (aq s L)
 |[],_=>.nil
 |[x],h=>h x (.head _)
 |x::y::r,h=>((h x (.head _)).app (.plain hs)).app (qM s hs (y::r) fun t ht=>h t (.tail _ ht))
theorem eU{L:List (List UInt8)}(h:∀t∈L,Frag t):Frag (ar L):=.chr 40 _ nofun ((qM [32] (by decide) L h).app (.chr 41 _ nofun .nil))
theorem iI{L:List (List UInt8)}{M:Nat}(h:∀t∈L,t.length<=M)(hL:L.length<=3)(hM:50<=M):(ar L).length<=4*M:=by
 have h1:=iO [32] (by decide) L h
 have h2:L.length*(M+10)<=3*(M+10):=Nat.mul_le_mul_right _ hL
 rw[iU]
 omega
theorem all_map'{α β:Type}{P:β->Prop}{L:List α}{f:α->β}(h:∀x∈L,P (f x)):∀t∈L.map f,P t:=fun t ht=>let⟨x,hx,e⟩:=List.mem_map.mp ht;e▸h x hx
theorem uA(r:Nat){as:List Row}(h:∀a∈as,n_ r a)(hl:as.length<=3):n_ (r+1) ⟨.tuple (as.map (·.told)),ar (as.map (·.free)),ar (as.map (·.plain))⟩:=by
 obtain⟨L,rfl,hL⟩:=yD as h
 rw[TN] at hl
 have hz (β:Type) (f:Row×D->β):(L.map f).length<=lim:=by rw[TN];exact tr hl rfl
 have hl3 (f:Row×D->List UInt8):(L.map f).length<=3:=by rw[TN];exact hl
 have v1:=cY.lst r (L.map fun x=>(x.2,x.1.free)) (all_map' (P:=fun x:D×List UInt8=>cY r x.1 x.2) fun x hx=>(hL x hx).1) (hz _ _)
 have v2:=cY.lst r (L.map fun x=>(x.2,x.1.plain)) (all_map' (P:=fun x:D×List UInt8=>cY r x.1 x.2) fun x hx=>(hL x hx).2.1) (hz _ _)
 have v3:=Tells.list r (L.map fun x=>(x.2,x.1.told)) (all_map' (P:=fun x:D×D=>Tells r x.1 x.2) fun x hx=>(hL x hx).2.2.1) (hz _ _)
 have v4:=sG.list r (L.map fun x=>(x.2,x.1.plain)) (all_map' (P:=fun x:D×List UInt8=>sG r x.1 x.2) fun x hx=>(hL x hx).2.2.2.1) (hz _ _)
 rw[gj,List.map_map,List.map_map] at v1 v2
 rw[List.map_map,List.map_map] at v3 v4
 have f (g:Row->List UInt8) (hg:∀x∈L,Frag (g x.1)):Frag (ar (L.map fun x=>g x.1)):=eU (all_map' hg)
 have l (g:Row->List UInt8) (hg:∀x∈L,(g x.1).length<=LB r):(ar (L.map fun x=>g x.1)).length<=LB (r+1):=IY r▸iI (all_map' (P:=fun t:List UInt8=>t.length<=LB r) hg) (hl3 _) (Ta (by decide) (LJ r))
 rw[List.map_map,List.map_map,List.map_map]
 exact⟨.list (L.map (·.2)),v1,v2,v3,v4,f _ fun x hx=>(hL x hx).2.2.2.2.1,f _ fun x hx=>(hL x hx).2.2.2.2.2.1,l _ fun x hx=>(hL x hx).2.2.2.2.2.2.1,l _ fun x hx=>(hL x hx).2.2.2.2.2.2.2⟩
section
variable{n:Nat}{μ:Mu}{I:gF}{k B:Nat}{Q:KV}{c1 c2:aI}
theorem M6{l:Mu}{c:aI}:(μ++c::l)[μ.length]? =some c:=by rw[List.getElem?_append_right (TG _),Nat.sub_self];rfl
theorem Ab:(μ++[c1,c2])[μ.length+1]? =some c2:=by rw[List.getElem?_append_right (Nat.le_add_right _ 1),Nat.add_sub_cancel_left];rfl
theorem bU{l:Mu}(h:3<=μ.length){Q:aI->Prop}(q:Q c1):iy (ik (μ++c1::l) I) μ.length Q:=aS ((ea (Nat.ne_of_gt (LN h)) (Nat.ne_of_gt h)).trans M6) q
theorem jL(h:3<=μ.length){Q:aI->Prop}(q:Q c2):iy (ik (μ++[c1,c2]) I) (μ.length+1) Q:=aS ((ea (Nat.ne_of_gt (Nat.lt_succ_of_lt (LN h))) (Nat.ne_of_gt (Nat.lt_succ_of_lt h))).trans Ab) q
noncomputable def DC(r:Nat):Nat:=20*4^r
theorem oY(r:Nat):20<=DC r:=Nat.le_mul_of_pos_right _ (Nat.pow_pos (Nat.zero_lt_succ 3))
theorem B8(r:Nat):DC (r+1)=4*DC r:=by rw[DC,DC,Nat.pow_succ,<-Nat.mul_assoc,Nat.mul_comm]
noncomputable def zT(r:Nat):Prop:=∀{n dep:Nat} {μ:Mu} {I:gF} {B:Nat} {Q:KV},dep+r=3->3<=μ.length->cj B I->B+DC r<=10^80->(∀w I',n_ r w->cj (B+DC r) I'->Q (.d w.d) (ik μ I'))->ae (n+r+10) 92 [.loc 2,.int (dep:Int)] (ik μ I) Q
noncomputable abbrev He(μ:Mu)(dep:Nat):Mu:=μ++[.cell (some (.loc 2)),.cell (some (.int (dep:Int)))]
theorem qH{dep:Nat}(h:3<=μ.length):3<=(He μ dep).length:=by rw[TM];exact Ta h (Nat.le_add_right ..)
theorem Lh{j:Int}{K:Mu->Prop}(hk:3<=μ.length)(q:K (ik μ ⟨I.cs,I.a,I.b,j⟩)):iy (ik μ I) 2 (Pu 2 (.int j) 3 (ik μ I) K):=aS (mE hk) ⟨by decide,TF rfl,TF rfl,Qm ⟨[],I.a,I.b,j⟩ q⟩
theorem o7{dep:Nat}(hk:3<=μ.length)(hI:cj B I)(hB:B+1<=10^80)
  (q:∀(x:Nat) I',cj (B+1) I'->aA (n+1) (bu.body.drop 2) ⟨[some (.int (x:Int)),none,none,none],[μ.length,μ.length+1]⟩ (ik (He μ dep) I') (aR (ik μ I) Q)):ae (n+2) 92 [.loc 2,.int (dep:Int)] (ik μ I) Q:=by
 refine DS ?_
 rw[cn,dZ hk]
 exact bU hk (cf (m:=7) (qH hk) hI (Nat.le_of_succ_le hB) (by decide) (TF rfl) fun x I1 hx hI1=>bU hk (ID (j:=3) (qH hk) rfl (bU hk (Lh (qH hk) (q x _ hI1)))))
theorem Qb{s:Nat}(h:s<=2):LB (s+1)<=16000:=Nat.mul_le_mul_left 250 (Nat.pow_le_pow_right (by decide) (Nat.succ_le_succ h):4^(s+1)<=4^3)
section
variable{dep r x:Nat}{I0:gF}{S:KS}
noncomputable abbrev LS(μ:Mu)(x:Nat):Fr:=⟨[some (.int (x:Int)),none,none,none],[μ.length,μ.length+1]⟩
noncomputable abbrev FZ(μ:Mu)(dep B r:Nat)(I0:gF)(Q:KV):Prop:=∀{w:Row} {I':gF} {C:Nat},C<=DC r->cj (B+C) I'->n_ r w->nJ (ik μ I0) Q (ik (He μ dep) I') w.d
theorem LH(hk:3<=μ.length)(hI:cj (B+1) I)(hB:B+20<=10^80)(fin:FZ μ dep B r I0 Q):aA (n+2) (bu.at 2).wb (LS μ x) (ik (He μ dep) I) (Az (aA (n+2) (bu.body.drop 3)) (aR (ik μ I0) Q)):=by
 refine bU hk ⟨TF rfl,dF (l:=H9.map .bytes) (qH hk) hI (Ta (Nat.add_le_add_left (by decide) B) hB) (.inl rfl) nofun (TF rfl) fun y hy I' hI'=>?_⟩
 obtain⟨t,ht,rfl⟩:=List.mem_map.mp hy
 exact⟨TF rfl,fin (C:=2) (Ta (by decide) (oY r)) hI' (FU r ht)⟩
theorem Nb(hk:3<=μ.length)(hI:cj (B+1) I)(hB:B+20<=10^80)(fin:FZ μ dep B r I0 Q):aA (n+2) (bu.at 4).wb (LS μ x) (ik (He μ dep) I) (Az (aA (n+2) (bu.body.drop 5)) (aR (ik μ I0) Q)):=by
 refine bU hk ⟨TF rfl,dF (l:=kZ.map .str) (qH hk) hI (Ta (Nat.add_le_add_left (by decide) B) hB) (.inl rfl) nofun (TF rfl) fun y hy I' hI'=>?_⟩
 obtain⟨w,hw,rfl⟩:=List.mem_map.mp hy
 have hw7:(∀c∈w,c<256)/\w.length<=100:=(by decide:∀w∈kZ,(∀c∈w,c<256)/\w.length<=100) w hw
 exact⟨TF rfl,az hw7.1 (tr hw7.2 rfl) (az hw7.1 (tr hw7.2 rfl) ⟨TF rfl,fin (C:=2) (Ta (by decide) (oY r)) hI' (Dg r hw)⟩)⟩
theorem Lj(hk:3<=μ.length)(hI:cj (B+1) I)(hB:B+20<=10^80)(fin:FZ μ dep B r I0 Q):aA (n+3) (bu.at 5).wb (LS μ x) (ik (He μ dep) I) (Az (aA (n+3) (bu.body.drop 6)) (aR (ik μ I0) Q)):=by
 refine bU hk (yP (dF (l:=CY.map .bytes) (qH hk) hI (Ta (Nat.add_le_add_left (by decide) B) hB) (.inl rfl) nofun (TF rfl) fun y hy I' hI'=>?_))
 obtain⟨o,ho,rfl⟩:=List.mem_map.mp hy
 have ho:=Hn ho
 have hol:=wj ho
 exact bU hk (ID (j:=3) (qH hk) rfl ⟨tr hol rfl,by decide,TF rfl,bU hk (Lh (qH hk) (bU hk (mh (B:=B+1+1) (qH hk) hI' (Ta (Nat.add_le_add_left (by decide:3<=20) B) hB) ho fun t ht I2 hI2=>
  fin (C:=3) (Ta (by decide) (oY r)) hI2 (H' r hol ht))))⟩)
theorem Nf{s:Nat}(ih:zT s)(hd:dep+(s+1)=3)(hk:3<=μ.length)(hI:cj (B+1) I)(hB:B+DC (s+1)<=10^80)(fin:FZ μ dep B (s+1) I0 Q):aA (n+s+10) (bu.body.drop 6) (LS μ x) (ik (He μ dep) I) (aR (ik μ I0) Q):=by
 have hk':=qH (dep:=dep) hk
 have hCs:=oY s
 rw[B8] at hB
 refine bU hk (cf (m:=4) hk' hI (by omega) (by decide) (TF rfl) fun c I1 hc hI1=>⟨Int.natCast_nonneg _,Int.ofNat_le.mpr (Ta (Nat.le_of_lt hc) (TF rfl)),?_⟩)
 have hm:(List.range c).length<=3:=by rw[List.length_range];exact Nat.le_of_lt_succ hc
 have hcm:B+1+1+(List.range c).length*DC s<=B+4*DC s:=by
  have:=Nat.mul_le_mul_right (DC s) hm
  omega
 refine mz (by rw[TN];exact tr hm rfl) (iT (DC s) (fun w:Row=>w.d) (n_ s) (fun i:Nat=>V.int (i:Int)) rfl (List.range c) .same hI1 (Ta hcm hB) (fun y hy B2 I2 K hI2 hB2 hK=>bU hk (jL hk (ih (n:=n) (dep:=dep+1) ((Nat.add_right_comm dep 1 s).trans hd) hk' hI2 hB2 hK))) (fun ws I3 hws hW hI3=>lG hk' ?_))
 have hws:ws.length<=3:=hws▸hm
 have hwl:ws.length<=lim:=tr hws rfl
 have hwm {β:Type} (f:Row->β):(ws.map f).length<=lim:=by rw[TN];exact hwl
 have hv:=uA s hW hws
 have hs2:LB (s+1)<=lim:=tr (Qb (by omega)) rfl
 obtain⟨_,_,_,_,_,_,_,hlf,hlp⟩:=hv
 exact id_map hwl (aQ (fun w:Row=>w.told) rfl hwl (fun w hw K hK=>ah (a:=0) rfl (TF rfl) hK) ⟨hwm _,id_map hwl (aQ (fun w:Row=>D.bytes w.free) rfl hwl (fun w hw K hK=>ah (a:=1) rfl (TF rfl) hK) (ya (f:=fun w:Row=>w.free) (Ta hlf hs2)
  (id_map hwl (aQ (fun w:Row=>D.bytes w.plain) rfl hwl (fun w hw K hK=>ah (a:=2) rfl (TF rfl) hK) (ya (f:=fun w:Row=>w.plain) (Ta hlp hs2) ⟨TF rfl,fin (w:=⟨.tuple (ws.map (·.told)),ar (ws.map (·.free)),ar (ws.map (·.plain))⟩) (C:=4*DC s) (Nat.le_of_eq (B8 s).symm) (hI3.mono hcm) (uA s hW hws)⟩)))))⟩)
theorem sv(ih:∀s,r=s+1->zT s)(hd:dep+r=3)(hk:3<=μ.length)(hI:cj (B+1) I)(hB:B+DC r<=10^80)(q:∀w I',n_ r w->cj (B+DC r) I'->Q (.d w.d) (ik μ I')):
  aA (n+r+9) (bu.body.drop 2) (LS μ x) (ik (He μ dep) I) (aR (ik μ I0) Q):=by
 have hk':=qH (dep:=dep) hk
 have hB2:B+20<=10^80:=Ta (Nat.add_le_add_left (oY r) B) hB
 have fin:FZ μ dep B r I0 Q:=fun{w I' C} hC hI' hw=>gQ hk (q w I' hw (hI'.mono (Nat.add_le_add_left hC B)))
 have t5:aA (n+r+9) (bu.body.drop 5) (LS μ x) (ik (He μ dep) I) (aR (ik μ I0) Q):=by
  by_cases h5:(x:Int)<5
  ·exact ak h5 (Lj hk hI hB2 fin)
  ·by_cases hdp:(dep:Int)>2
   ·exact ai h5 (jL hk (ak hdp (Lj hk hI hB2 fin)))
   ·obtain⟨s,rfl⟩:∃s,r=s+1:=⟨r-1,by omega⟩
    exact ai h5 (jL hk (ai hdp (Nf (n:=n) (ih s rfl) hd hk hI hB fin)))
 have t4:aA (n+r+9) (bu.body.drop 4) (LS μ x) (ik (He μ dep) I) (aR (ik μ I0) Q):=by
  by_cases h3:(x:Int)=3
  ·exact ak h3 (Nb hk hI hB2 fin)
  ·exact ai h3 t5
 have t3:aA (n+r+9) (bu.body.drop 3) (LS μ x) (ik (He μ dep) I) (aR (ik μ I0) Q):=by
  by_cases h3:(x:Int)<3
  ·exact ak h3 (bU hk (eV hk' hI (Ta (Nat.add_le_add_left (by decide:6<=20) B) hB2) fun m z I' hm hz hI'=>fin (C:=6) (Ta (by decide) (oY r)) hI' (HO r hm hz)))
  ·exact ai h3 t4
 by_cases hx:(x:Int)=0
 ·exact ak hx (LH hk hI hB2 fin)
 ·by_cases hm:I.m<0
  ·exact ai hx (bU hk (ID (j:=3) hk' rfl (ak hm (LH hk hI hB2 fin))))
  ·exact ai hx (bU hk (ID (j:=3) hk' rfl (ai hm t3)))
end
theorem tR(r:Nat):zT r:=by
 induction r with
 |zero=>exact @fun n dep μ I B Q hd hk hI hB q=>o7 (n:=n+8) hk hI (Ta (Nat.add_le_add_left (Ta (by decide) (oY 0)) B) hB) fun x I' hI'=>sv (r:=0) (n:=n) (fun s hs=>nomatch hs) hd hk hI' hB q
 |succ r ih=>exact @fun n dep μ I B Q hd hk hI hB q=>o7 (n:=n+(r+1)+8) hk hI (Ta (Nat.add_le_add_left (Ta (by decide) (oY (r+1))) B) hB) fun x I' hI'=>sv (r:=r+1) (n:=n) (fun s hs=>by cases hs;exact ih) hd hk hI' hB q
end
section
noncomputable def aX(s:List UInt8):Prop:=s.getLast?≠some 125
theorem aX.app{a b:List UInt8}(ha:aX a)(hb:aX b):aX (a++b):=by
 unfold aX at*
 rw[List.getLast?_append]
 cases h:b.getLast? with
 |none=>exact ha
 |some c=>rw[h] at hb;exact hb
theorem aX.of{s:List UInt8}(h:∀c∈s,c≠125):aX s:=fun e=>h 125 (List.mem_of_getLast? e) rfl
theorem aX.ends(a:List UInt8){b:List UInt8}{c:UInt8}(hb:b.getLast?=some c)(hc:c≠125):aX (a++b):=by
 unfold aX
 rw[List.getLast?_append,hb]
 exact fun e=>hc (Option.some.inj e)
theorem bK{x:D}{s:List UInt8}(h:Reads x (s++[13,10]))(hf:Frag s)(he:aX s):Piece x (s++[13,10]):=⟨h,s,rfl,hf,he⟩
noncomputable def bk(w:Row):Prop:=∃d r,r<=9/\Piece d w.free/\Piece d w.plain/\Tells r d w.told/\mD d w.plain/\w.free.length<=100000/\w.plain.length<=100000
noncomputable def vy(w:List UInt8)(U:List Nat):Prop:=(∀c∈w,bc c.toNat=true)/\w≠[]/\aK (codes w)=U
theorem vy.at{w s:List UInt8}{U:List Nat}(h:vy w U)(hs:∀c,s.head?=some c->bc c.toNat=false):cq w U s:=⟨⟨h.1,hs⟩,h.2.1,h.2.2⟩
noncomputable abbrev D8:List (List Nat):=bX++[[69,88,73,83,84,83],[69,88,80,85,78,71,69],[70,69,84,67,72]]++Dh++nS++[lH,[67,65,80,65,66,73,76,73,84,89]]
theorem av{U:List Nat}{w:List UInt8}(hU:U∈D8)(h:bS U w):vy w U/\(∀c∈w,c≠13/\c≠125)/\w.length<=20:=by
 have hall:∀U∈D8,∀w∈[aa U,aa (ax U),aa (U.take 1++ax (U.drop 1))],((∀c∈w,bc c.toNat=true)/\w≠[]/\aK (codes w)=U)/\(∀c∈w,c≠13/\c≠125)/\w.length<=20:=by decide+kernel
 exact hall U hU w (h.elim (fun e=>e▸.head _) fun h=>h.elim (fun e=>e▸.tail _ (.head _)) fun e=>e▸.tail _ (.tail _ (.head _)))
theorem sq{r:List UInt8}:∀c,(13::r).head?=some c->bc c.toNat=false:=eK rfl
theorem dD{r:List UInt8}:∀c,(32::r).head?=some c->bc c.toNat=false:=eK rfl
theorem Pl.uniq{d s:List UInt8}{p p':Nat}(a:Pl d p s)(b:Pl d p' s):p=p':=Nat.add_right_cancel (a.len.symm.trans b.len)
section
variable{w:List UInt8}{U:List Nat}
theorem ui{g:List UInt8}(hg:dJ g)(g0:g≠[])(g9:g.length<=19)(hw:vy w U)(hU:U∈([[69,88,73,83,84,83],[69,88,80,85,78,71,69]]:List (List Nat))):Un (.tuple [.str (ax U),.int (numOf g:Nat)]) (g++32::w):=by
 intro n μ Q k d p hk hl h q
 have h0:=h.step
 rw[bG] at h
 rw[h0.uniq h.step.one.step,Nat.add_assoc (p+g.length)] at q
 exact Iw hk hl h hg g0 g9 (xJ hk hl h.step (hw.at sq) hU (au hk q))
theorem xK{g:List UInt8}{its:List (D×List UInt8)}(hg:dJ g)(g0:g≠[])(g9:g.length<=19)(hw:vy w [70,69,84,67,72])(hi:∀x∈its,cB x.1 x.2)(hz:its.length<=lim):Un (.tuple [.str rM,.int (numOf g:Nat),.tuple (its.map (·.1))]) (g++32::(w++32::aF its)):=by
 intro n μ Q k d p hk hl h q
 have h0:=h.step
 rw[bG,bG] at h
 rw[h0.uniq h.step.one.step.one.step,Nat.add_assoc (p+g.length),Nat.add_assoc (p+g.length),Nat.add_assoc (p+g.length)] at q
 exact Iw hk hl h hg g0 g9 (xm hk hl h.step (hw.at dD) hi hz (au hk q))
theorem xW{l:List (List UInt8)}(hw:vy w [70,76,65,71,83])(hi:∀t∈l,t≠[]/\j4 t)(hz:l.length<=lim):Un (.tuple [.str [102,108,97,103,115],.tuple (l.map fun t=>.str (codes t))]) (w++32::aF (a_ l)):=by
 intro n μ Q k d p hk hl h q
 have h0:=h.step
 rw[bG] at h
 rw[h0.uniq h.step.one.step,Nat.add_assoc (p+w.length)] at q
 exact Ai hk hl h (hw.at dD) (.head _) (Nq hk hl h.step hi hz (au hk q))
theorem CQ{nm t:List UInt8}{its:List (D×List UInt8)}(hw:vy w [83,84,65,84,85,83])(hN:∀s,oz nm t (32::s))(hi:∀x∈its,dQ x.1 x.2)(hz:its.length<=lim):Un (.tuple [.str [115,116,97,116,117,115],.str (codes nm),.tuple (its.map (·.1))]) (w++32::(t++32::aF its)):=by
 intro n μ Q k d p hk hl h q
 have h0:=h.step
 rw[bG,bG] at h
 rw[h0.uniq h.step.one.step.one.step,Nat.add_assoc (p+w.length),Nat.add_assoc (p+w.length),Nat.add_assoc (p+w.length)] at q
 exact Ai hk hl h (hw.at dD) (.tail _ (.head _)) (Mx hk hl h.step (hN _) hi hz (au hk q))
theorem Bx{nm t:List UInt8}{l:List (List UInt8)}(hw:vy w U)(hU:U=[76,73,83,84]\/U=[76,83,85,66])(hN:∀s,oz nm t (13::s))(hi:∀t∈l,t≠[]/\j4 t)(hz:l.length<=lim):Un (.tuple [.str (ax U),.tuple (l.map fun t=>.str (codes t)),.str (codes nm)]) (w++32::(aF (a_ l)++([32,34,47,34,32]++t))):=by
 intro n μ Q k d p hk hl h q
 have h0:=h.step
 rw[bG,TP (aF _),TP [32,34,47,34,32]] at h
 rw[h0.uniq h.step.one.step.step.step,Nat.add_assoc (p+w.length),Nat.add_assoc (p+w.length),Nat.add_assoc (p+w.length)] at q
 exact Ai hk hl h (hw.at dD) (hU.elim (fun e=>e▸.tail _ (.tail _ (.head _))) fun e=>e▸.tail _ (.tail _ (.tail _ (.head _)))) (MB hk hl hU h.step hi hz (hN _) (au hk q))
end
end
section
variable{w:List UInt8}{U:List Nat}
theorem g8(l:List (List UInt8)){c:UInt8}{r:List UInt8}(hc:bc c.toNat=false):∀x,(ao l++c::r).head?=some x->bc x.toNat=false:=by
 cases l with
 |nil=>exact eK hc
 |cons a l=>exact dD
theorem ub:kO [13,10]:=.inl ⟨13,[10],rfl,by decide,rfl⟩
theorem ra{l:List (List UInt8)}(hw:vy w [83,69,65,82,67,72])(hi:nums l)(hz:l.length<=lim):Un (.tuple [.str [115,101,97,114,99,104],.tuple (l.map fun t=>.int (numOf t:Nat)),.int 0]) (w++ao l):=by
 intro n μ Q k d p hk hl h q
 have h0:=h.step
 rw[TP] at h
 rw[h0.uniq h.step.step] at q
 exact iP hk hl h (hw.at (g8 l rfl)) (.head _) (o9 hk hl ub nofun hi h.step hz (au hk q))
theorem qQ{l:List (List UInt8)}{t:List UInt8}(hw:vy w [83,69,65,82,67,72])(hi:nums l)(hz:l.length<=lim)(ht:dJ t)(t0:t≠[])(t9:t.length<=19):Un (.tuple [.str [115,101,97,114,99,104],.tuple (l.map fun t=>.int (numOf t:Nat)),.int (numOf t:Nat)]) (w++(ao l++(cy++(t++[41])))):=by
 intro n μ Q k d p hk hl h q
 have h0:=h.step
 rw[TP w,TP (ao l),TP cy,TP t] at h
 have h:Pl d p (w++(ao l++(cy++(t++41::[13,10])))):=h
 rw[h0.uniq h.step.step.step.step.one] at q
 exact iP hk hl h (hw.at (g8 l rfl)) (.head _) (pD hk hl hi h.step hz ht t0 t9 (au hk q))
theorem CK{l:List (List UInt8)}(hw:vy w [83,79,82,84])(hi:nums l)(hz:l.length<=lim):Un (.tuple [.str [115,111,114,116],.tuple (l.map fun t=>.int (numOf t:Nat))]) (w++ao l):=by
 intro n μ Q k d p hk hl h q
 have h0:=h.step
 rw[TP] at h
 rw[h0.uniq h.step.step] at q
 exact iP hk hl h (hw.at (g8 l rfl)) (.tail _ (.tail _ (.head _))) (wJ hk hl ub hi h.step hz (au hk q))
theorem z7(hw:vy w [84,72,82,69,65,68]):Un (.tuple [.str [116,104,114,101,97,100],.bytes []]) w:=by
 intro n μ Q k d p hk hl h q
 exact iP hk hl h (hw.at sq) (.tail _ (.tail _ (.tail _ (.head _)))) (pN hk hl h.step nofun (au hk q))
theorem zQ{t:List UInt8}(hw:vy w [84,72,82,69,65,68])(ht:∀c∈t,cU c.toNat=true):Un (.tuple [.str [116,104,114,101,97,100],.bytes t]) (w++32::t):=by
 intro n μ Q k d p hk hl h q
 have h0:=h.step
 rw[bG] at h
 rw[h0.uniq h.step.one.step] at q
 exact iP hk hl h (hw.at dD) (.tail _ (.tail _ (.tail _ (.head _)))) (pV hk hl h.step ⟨ht,eK rfl⟩ (au hk q))
theorem q_{tg ts w2 t:List UInt8}{b:Bool}(hw:vy w [69,83,69,65,82,67,72])(hts:gW tg ts)(tgz:tg.length<=lim)(hw2:∀c∈w2,cx c.toNat=true)(w0:w2≠[])(wA:aK (codes w2)≠[65,76,76])(w3:3<=w2.length)(wU:w2.take 3≠[85,73,68])(ht:dJ t)(t0:t≠[])(t9:t.length<=19):
  Un (.tuple [.str [101,115,101,97,114,99,104],.str (codes tg),.bool b,.tuple [.tuple [.str (aK (codes w2)),.int (numOf t:Nat)]]]) (w++(ma++(ts++41::(lK b++32::(w2++32::t))))):=by
 intro n μ Q k d p hk hl h q
 have h0:=h.step
 rw[TP w,TP ma,bG,bG,bG] at h
 have e:=h0.uniq (s:=[13,10]) h.step.step.step.one.step.one.step.one.step
 rw[e] at q
 exact iP hk hl h (hw.at dD) (.tail _ (.head _)) (pq hk hl hts tgz h.step hw2 w0 wA w3 wU ⟨nofun,eK rfl⟩ ht t0 t9 (au hk q))
theorem oN{b:Bool}{x:D}{t:List UInt8}(hw:vy w lH)(ht:∀c∈t,l_ c.toNat=true)(t0:t≠[])(t7:∀c∈t,c.toNat<128)(te:t.head?≠some 40)(hx:∀(m:Nat) (μ:Mu) (K:KV),K (.d x) μ->ae (m+2) 10 [.str (codes t)] μ K):
  Un (.tuple [.str GB,x,.bool b]) (w++32::(lP b++t)):=by
 intro n μ Q k d p hk hl h q
 have h0:=h.step
 rw[bG,TP (lP b)] at h
 rw[h0.uniq h.step.one.step.step] at q
 exact NH hk hl (hw.at dD) h ⟨ht,eK rfl⟩ t0 t7 te hx q
theorem lO{l:List (List UInt8)}(hw:vy w [67,65,80,65,66,73,76,73,84,89])(hi:∀t∈l,t≠[]/\∀c∈t,bc c.toNat=true)(hz:l.length<=lim):Un (.tuple [.str (ax [67,65,80,65,66,73,76,73,84,89]),.tuple (l.map fun t=>.str (codes t))]) (w++ao l):=by
 intro n μ Q k d p hk hl h q
 have h0:=h.step
 rw[TP] at h
 rw[h0.uniq h.step.step] at q
 exact Ji hk hl (hw.at (g8 l rfl)) (.head _) h ⟨nofun,sq⟩ hi hz q
theorem zA{cd:D}{ct T:List UInt8}(hw:vy w U)(hU:U∈bX)(hc:fH cd ct)(hT:gr T):Un (.tuple [.str (ax U),.str [42],cd,.str (codes T)]) (w++32::(ct++T)):=by
 intro n μ Q k d p hk hl h q
 have h0:=h.step
 rw[bG,TP ct] at h
 rw[h0.uniq h.step.one.step.step] at q
 exact Dj hk hl hU hc h (hw.at dD) hT.tok hT.h0 hT.h1 hT.h2 nofun q
end
noncomputable abbrev er:List (List Nat):=[[100,111,110,101],[],[97,32,123,51,125,32,98],[42,32,79,75],[120,93,32,121,32,53]]
structure Pp(T:List Nat):Prop where
 ok:gr (aa T)
 EO:codes (aa T)=T
 Kp:∀c∈aa T,c≠13
 en:aX (aa T)
 len:T.length<=20
 lt:∀c∈T,c<128
theorem zy{T:List Nat}(h:T∈er):Pp T:=
 have a:∀T∈er,(∀c∈aa T,cU c.toNat=true)/\(aa T).head?≠some 91/\(¬(cut (codes (aa T)) none (some 1))=[91])/\(¬(cut (codes (aa T)) (some (-1)) none)=[125])/\codes (aa T)=T/\(∀c∈aa T,c≠13)/\(aa T).getLast?≠some 125/\T.length<=20/\∀c∈T,c<128:=by decide+kernel
 have h:=a T h
 ⟨⟨h.1,h.2.1,h.2.2.1,h.2.2.2.1⟩,h.2.2.2.2.1,h.2.2.2.2.2.1,h.2.2.2.2.2.2.1,h.2.2.2.2.2.2.2.1,h.2.2.2.2.2.2.2.2⟩
theorem gv{r:Nat}{a b a' b':D}(ha:Tells r a a')(hb:Tells r b b'):Tells (r+1) (.tuple [a,b]) (.tuple [a',b']):=
 Tells.tuple r [(a,a'),(b,b')] (fun x hx=>by cases hx with|head=>exact ha|tail _ hx=>cases hx with|head=>exact hb|tail _ hx=>cases hx) (TF rfl)
theorem qI{r:Nat}{a b c a' b' c':D}(ha:Tells r a a')(hb:Tells r b b')(hc:Tells r c c'):Tells (r+1) (.tuple [a,b,c]) (.tuple [a',b',c']):=
 Tells.tuple r [(a,a'),(b,b'),(c,c')] (fun x hx=>by cases hx with|head=>exact ha|tail _ hx=>cases hx with|head=>exact hb|tail _ hx=>cases hx with|head=>exact hc|tail _ hx=>cases hx) (TF rfl)
theorem Hk{r:Nat}{a b c d a' b' c' d':D}(ha:Tells r a a')(hb:Tells r b b')(hc:Tells r c c')(hd:Tells r d d'):Tells (r+1) (.tuple [a,b,c,d]) (.tuple [a',b',c',d']):=
 Tells.tuple r [(a,a'),(b,b'),(c,c'),(d,d')] (fun x hx=>by cases hx with|head=>exact ha|tail _ hx=>cases hx with|head=>exact hb|tail _ hx=>cases hx with|head=>exact hc|tail _ hx=>cases hx with|head=>exact hd|tail _ hx=>cases hx) (TF rfl)
theorem FA{T:List Nat}(h:T∈er):bk ⟨.tuple [.str tX,.str T],[43,32]++(aa T++[13,10]),[43,32]++(aa T++[13,10])⟩:=by
 have ht:=zy h
 have hl:(aa T).length<=20:=aL T▸ht.len
 have rd:=Aa ht.ok
 have hw:=xG ht.ok (tr hl rfl)
 rw[ht.EO] at rd hw
 have hp:Piece (.tuple [.str tX,.str T]) ([43,32]++(aa T++[13,10])):=bK (s:=[43,32]++aa T) rd ((Frag.plain (by decide:∀c∈([43,32]:List UInt8),c≠13)).app (.plain ht.Kp)) (aX.app (a:=[43,32]) (by unfold aX;decide) ht.en)
 have z:([43,32]++(aa T++[13,10])).length<=100000:=tr (la (TG _) (la hl (TG _))) rfl
 exact⟨_,1,by decide,hp,hp,gv (.str 0 _) (.str 0 _),hw,z,z⟩
noncomputable def sH(c:Row):Prop:=∃cd r,r<=8/\fH cd c.free/\fH cd c.plain/\sx cd c.plain/\Tells r cd c.told/\Frag c.free/\Frag c.plain/\aX c.free/\aX c.plain/\c.free.length<=50000/\c.plain.length<=50000
noncomputable def um(tag U:List Nat):Prop:=tag=[42]\/(tag∈([[97,49],[84,46,57]]:List (List Nat))/\U≠[66,89,69]/\U≠[80,82,69,65,85,84,72])
theorem SR(a b c d e:List UInt8):a++b++[32]++c++d++e=a++(b++32::(c++(d++e))):=by rw[TP,TP,TP,TP];rfl
theorem oO{tag U T:List Nat}{w ct:List UInt8}{cd:D}(hU:U∈bX)(hT:T∈er)(htag:um tag U)(hw:vy w U)(hc:fH cd ct):Reads (.tuple [.str (ax U),.str tag,cd,.str T]) (aa (tag++[32])++w++[32]++ct++aa T++[13,10]):=by
 have ht:=zy hT
 rw[SR]
 rcases htag with rfl|⟨hg,hb⟩
 ·have hu:=aJ (zA hw hU hc ht.ok)
  rw[ht.EO,bG,TP] at hu
  exact hu
 ·have htg:∀tag∈([[97,49],[84,46,57]]:List (List Nat)),(∀c∈aa tag,oh c.toNat=true)/\aa tag≠[]/\((aa tag).head?≠some 42/\(aa tag).head?≠some 43)/\codes (aa tag)=tag:=by decide
  obtain⟨g1,g2,g3,g4⟩:=htg tag hg
  have this:=EE hU hc g1 g2 g3 hb (hw.at dD) ht.ok
  rw[ht.EO,g4] at this
  rw[cM,TP]
  exact this
theorem DT{tag U T:List Nat}{w:List UInt8}{c:Row}(hU:U∈bX)(hT:T∈er)(htag:um tag U)(hw:bS U w)(hc:sH c):
  bk ⟨.tuple [.str (ax U),.str tag,c.told,.str T],aa (tag++[32])++w++[32]++c.free++aa T++[13,10],aa (tag++[32])++aa U++[32]++c.plain++aa T++[13,10]⟩:=by
 obtain⟨cd,r,hr,h1,h2,h3,h4,f1,f2,e1,e2,l1,l2⟩:=hc
 have hUk:U∈D8:=List.mem_append_left _ (List.mem_append_left _ (List.mem_append_left _ (List.mem_append_left _ hU)))
 obtain⟨s1,s2,s3⟩:=av hUk hw
 obtain⟨p1,p2,p3⟩:=av hUk (.inl rfl)
 have ht:=zy hT
 have hl:(aa T).length<=20:=aL T▸ht.len
 have hta:∀tag∈([[42],[97,49],[84,46,57]]:List (List Nat)),(∀c∈aa (tag++[32]),c≠13/\c≠125)/\tag.length<=3/\(∀c∈tag,c<128)/\(aa (tag++[32])).length<=4:=by decide
 obtain⟨g1,g2,g3,g4⟩:=hta tag (htag.elim (fun e=>e▸.head _) fun h=>.tail _ h.1)
 have fr {w ct:List UInt8} (hw:∀c∈w,c≠13/\c≠125) (hc:Frag ct):Frag (aa (tag++[32])++w++[32]++ct++aa T):=
  ((((Frag.plain fun c hc=>(g1 c hc).1).app (.plain fun c hc=>(hw c hc).1)).app (.plain (by decide))).app hc).app (.plain ht.Kp)
 have en {w ct:List UInt8} (hc:aX ct):aX (aa (tag++[32])++w++[32]++ct++aa T):=aX.app (aX.app (aX.ends _ (b:=[32]) rfl (by decide)) hc) ht.en
 have ln {w ct:List UInt8} (hw:w.length<=20) (hc:ct.length<=50000):(aa (tag++[32])++w++[32]++ct++aa T++[13,10]).length<=100000:=tr (la (la (la (la (la g4 hw) (TG _)) hc) hl) (TG _)) rfl
 have w:=sN hU g3 (tr g2 rfl) h3 ht.ok (tr hl rfl) (tr l2 rfl)
 have e:aa (jc tag U)=aa (tag++[32])++aa U++[32]:=by rw[cM,cM];rfl
 rw[ht.EO,e,<-TP] at w
 exact⟨.tuple [.str (ax U),.str tag,cd,.str T],r+1,Nat.succ_le_succ hr,bK (oO hU hT htag s1 h1) (fr s2 f1) (en e1),bK (oO hU hT htag p1 h2) (fr p2 f2) (en e2),
  Hk (.str _ _) (.str _ _) h4 (.str _ _),w,ln s3 l1,ln p3 l2⟩
section
theorem sG.mono{r:Nat}{x:D}{t:List UInt8}(h:sG r x t):∀{r':Nat},r<=r'->sG r' x t:=by
 induction h with
 |none r=>exact fun{r'} _=>.none r'
 |atom r t a b=>exact fun{r'} _=>.atom r' t a b
 |bytes r l a=>exact fun{r'} _=>.bytes r' l a
 |int r m a=>exact fun{r'} _=>.int r' m a
 |list r its h hz ih=>
  intro r' hr
  cases r' with
  |zero=>cases hr
  |succ s=>exact .list s its (fun x hx=>ih x hx (Nat.le_of_succ_le_succ hr)) hz
theorem uv{its:List (D×List UInt8)}(h:its≠[]):aN its=32::aq [32] (its.map (·.2)):=by
 cases its with
 |nil=>exact absurd rfl h
 |cons x r=>rw[tail_cons,List.map_cons,ju,List.flatMap_map];rfl
theorem DE:sH ⟨.none,[],[]⟩:=⟨.none,0,by decide,.none,.none,.none,.none 0,.nil,.nil,nofun,nofun,Nat.zero_le _,Nat.zero_le _⟩
noncomputable abbrev wo:List (List Nat):=[[82,69,65,68,45,87,82,73,84,69],[67,76,79,83,69,68],[65,108,101,114,116],[120]]
noncomputable abbrev nt:List Nat:=[67,79,80,89,85,73,68]
structure tM(t:List Nat):Prop where
 lt:∀c∈t,c<128
 len:t.length<=20
 val:j4 (aa t)
 ne:aa t≠[]
 nil:(aa t).map eH≠pI
 Rw:zR (aa t)=false
 EO:codes (aa t)=t
 Kp:∀c∈aa t,c≠13
theorem p_{t:List Nat}(h:t∈wo++[jH,nt]):tM t:=by
 have hall:∀t∈wo++[jH,nt],(∀c∈t,c<128)/\t.length<=20/\j4 (aa t)/\aa t≠[]/\(aa t).map eH≠pI/\zR (aa t)=false/\codes (aa t)=t/\(∀c∈aa t,c≠13):=by decide+kernel
 obtain⟨a1,a2,a3,a4,a5,a6,a7,a8⟩:=hall t h
 exact⟨a1,a2,a3,a4,a5,a6,a7,a8⟩
noncomputable abbrev Ae(t:List Nat)(its:List (D×List UInt8)):List UInt8:=91::(aa t++(aN its++[93,32]))
theorem wR{t:List Nat}{its:List (D×List UInt8)}(ht:tM t)(hi:∀x∈its,i0 (decide (t=jH)) x.1 x.2)(hz:its.length<=100):fH (.list (.atom t::its.map (·.1))) (Ae t its):=by
 have this:=fH.code (aa t) its ht.val ht.ne ht.nil ht.Rw (by rw[ht.EO];exact hi) (Nat.lt_of_le_of_lt hz (TF rfl)) (aL t▸tr ht.len rfl)
 rw[ht.EO] at this
 exact this
theorem mU{α:Type}{P:α->Prop}{a:α}{l:List α}(h:P a)(hl:∀x∈l,P x):∀x∈a::l,P x:=fun x hx=>(List.mem_cons.mp hx).elim (fun e=>e▸h) (hl x)
theorem gX{α:Type}{P:α->Prop}{a:α}(h:P a):∀x∈[a],P x:=fun x hx=>List.eq_of_mem_singleton hx▸h
theorem AQ{t:List Nat}{its:List (D×List UInt8)}(ht:tM t)(hi:∀x∈its,sG 7 x.1 x.2)(hz:its.length<=100):sx (.list (.atom t::its.map (·.1))) (Ae t its):=by
 have this:=sx.code ((.atom t,aa t)::its) (mU (P:=fun x:D×List UInt8=>sG 7 x.1 x.2) (.atom 7 t ht.lt (tr ht.len rfl)) hi) (tr (Nat.succ_le_succ hz) rfl)
 rw[List.map_cons,List.map_cons,ju,List.flatMap_map,TP] at this
 exact this
theorem mN(t:List Nat)(its:List (D×List UInt8)):aX (Ae t its):=by
 have this:=aX.ends (91::(aa t++aN its)) (b:=[93,32]) (c:=32) rfl (by decide)
 rw[List.cons_append,TP] at this
 exact this
theorem DF{its:List (D×List UInt8)}(h:∀x∈its,Frag x.2):Frag (aN its):=by
 induction its with
 |nil=>exact .nil
 |cons x r ih=>exact .chr 32 _ (by decide) ((h x (.head _)).app (ih fun y hy=>h y (.tail _ hy)))
theorem nQ{t:List Nat}{its:List (D×List UInt8)}(ht:tM t)(h:∀x∈its,Frag x.2):Frag (Ae t its):=
 .chr 91 _ (by decide) ((Frag.plain ht.Kp).app ((DF h).app (.plain (by decide))))
theorem zN{t:List Nat}(h:t∈wo):sH ⟨.tuple [.tuple [.str dE,.str t]],91::(aa t++[93,32]),91::(aa t++[93,32])⟩:=by
 have ht:=p_ (List.mem_append_left _ h)
 have s:=wR (its:=[]) ht nofun (Nat.zero_le _)
 have w:=AQ (its:=[]) ht nofun (Nat.zero_le _)
 have f:=nQ (its:=[]) ht nofun
 have z:(91::(aa t++[93,32])).length<=50000:=tr (Nat.succ_le_succ (la (aL t▸ht.len) (TG 2))) rfl
 exact⟨.list [.atom t],1,by decide,s,s,w,Tells.list 0 [(.atom t,.tuple [.str dE,.str t])] (gX (P:=fun x:D×D=>Tells 0 x.1 x.2) (.atom _ _)) (TF rfl),f,f,mN t [],mN t [],z,z⟩
section
variable{ws:List (List Nat)}
theorem d8(h:∀w∈ws,w∈flagWords):(∀t∈ws.map aa,t≠[]/\j4 t):=
 all_map' (P:=fun t=>t≠[]/\j4 t) fun w hw=>let⟨a,b,c,e⟩:=fb (h w hw);⟨fun e=>c (List.map_eq_nil_iff.mp e),fun x hx=>(e x hx).1⟩
theorem g7(h:∀w∈ws,w∈flagWords){β:Type}(f:List Nat->β):(ws.map aa).map (fun t=>f (codes t))=ws.map f:=by
 rw[List.map_map]
 exact List.map_congr_left fun w hw=>congrArg f (qE fun c hc=>Nat.lt_trans ((fb (h w hw)).1 c hc) (by decide))
theorem kQ(ws:List (List Nat)):aF (a_ (ws.map aa))=ar (ws.map aa):=by
 rw[gj,a_,List.map_map];exact congrArg ar (List.map_id' _)
theorem jy(h:∀w∈ws,w∈flagWords):Frag (ar (ws.map aa)):=eU (all_map' fun w hw=>.plain fun c hc=>((fb (h w hw)).2.2.2 c hc).2)
theorem d9(h:∀w∈ws,w∈flagWords)(hl:ws.length<=3):(ar (ws.map aa)).length<=200:=
 iI (M:=50) (all_map' (P:=fun t:List UInt8=>t.length<=50) fun w hw=>aL w▸tr (fb (h w hw)).2.1 rfl) (by rw[TN];exact hl) (by decide)
theorem r3(r:Nat)(hl:ws.length<=lim):Tells (r+1) (.list (ws.map .atom)) (.tuple (ws.map fun w=>.tuple [.str dE,.str w])):=by
 have this:=Tells.list r (ws.map fun w=>(D.atom w,D.tuple [.str dE,.str w])) (all_map' (P:=fun x:D×D=>Tells r x.1 x.2) fun w hw=>.atom r w) (by rw[TN];exact hl)
 rw[List.map_map,List.map_map] at this
 exact this
theorem BB(r:Nat)(h:∀w∈ws,w∈flagWords)(hl:ws.length<=lim):sG (r+1) (.list (ws.map .atom)) (ar (ws.map aa)):=by
 have this:=sG.list r (ws.map fun w=>(D.atom w,aa w)) (all_map' (P:=fun x:D×List UInt8=>sG r x.1 x.2) fun w hw=>.atom r w (fb (h w hw)).1 (tr (fb (h w hw)).2.1 rfl)) (by rw[TN];exact hl)
 rw[List.map_map,List.map_map] at this
 exact this
noncomputable abbrev uB(ws:List (List Nat)):List UInt8:=[91,80,69,82,77,65,78,69,78,84,70,76,65,71,83,32]++(ar (ws.map aa)++[93,32])
theorem DV(h:∀w∈ws,w∈flagWords)(hl:ws.length<=3):
  sH ⟨.tuple [.tuple [.str dE,.str jH],.tuple (ws.map fun w=>.tuple [.str dE,.str w])],uB ws,uB ws⟩:=by
 have ht:tM jH:=p_ (by decide)
 have hz:ws.length<=lim:=tr hl rfl
 have hci:=i0.flags (ws.map aa) (d8 h) (by rw[TN];exact hz)
 rw[kQ,g7 h D.atom] at hci
 have eo:Ae jH [(.list (ws.map .atom),ar (ws.map aa))]=uB ws:=congrArg (fun l=>91::(aa jH++32::(l++[93,32]))) (List.append_nil _)
 have s:=wR (its:=[(.list (ws.map .atom),ar (ws.map aa))]) ht (gX (P:=fun x:D×List UInt8=>i0 true x.1 x.2) hci) (TF rfl)
 have w:=AQ (its:=[(.list (ws.map .atom),ar (ws.map aa))]) ht (gX (P:=fun x:D×List UInt8=>sG 7 x.1 x.2) (BB 6 h hz)) (TF rfl)
 have f:=nQ (its:=[(.list (ws.map .atom),ar (ws.map aa))]) ht (gX (P:=fun x:D×List UInt8=>Frag x.2) (jy h))
 have e:=mN jH [(.list (ws.map .atom),ar (ws.map aa))]
 rw[eo] at s w f e
 have z:(uB ws).length<=50000:=tr (la (TG _) (la (d9 h hl) (TG _))) rfl
 exact⟨_,2,by decide,s,s,w,Tells.list 1 [(.atom jH,.tuple [.str dE,.str jH]),(.list (ws.map .atom),.tuple (ws.map fun w=>.tuple [.str dE,.str w]))] (mU (P:=fun x:D×D=>Tells 1 x.1 x.2) (.atom _ _) (gX (P:=fun x:D×D=>Tells 1 x.1 x.2) (r3 0 hz))) (TF rfl),f,f,e,e,z,z⟩
end
noncomputable abbrev nh(L:List (List UInt8)):List UInt8:=[91,67,79,80,89,85,73,68,32]++(aq [32] L++[93,32])
theorem D0{as:List Row}(h:∀a∈as,n_ 2 a)(h0:as≠[])(hl:as.length<=3):
  sH ⟨.tuple (.tuple [.str dE,.str nt]::as.map (·.told)),nh (as.map (·.free)),nh (as.map (·.plain))⟩:=by
 have ht:tM nt:=p_ (by decide)
 obtain⟨L,rfl,hL⟩:=yD as h
 rw[TN] at hl
 have hL0:L≠[]:=fun e=>h0 (e▸rfl)
 have hz (β:Type) (f:Row×D->β):(L.map f).length<=100:=by rw[TN];exact tr hl rfl
 have h1:∀f:Row×D->D×List UInt8,L.map f≠[]:=fun f e=>hL0 (List.map_eq_nil_iff.mp e)
 have all (g:Row->List UInt8) (hs:∀x∈L,cY 2 x.2 (g x.1)) (hf:∀x∈L,Frag (g x.1)) (hl2:∀x∈L,(g x.1).length<=LB 2):fH (.list (.atom nt::L.map (·.2))) (nh (L.map fun x=>g x.1))/\Frag (nh (L.map fun x=>g x.1))/\aX (nh (L.map fun x=>g x.1))/\(nh (L.map fun x=>g x.1)).length<=50000:=by
  have s:=wR (its:=L.map fun x=>(x.2,g x.1)) ht (all_map' (P:=fun x:D×List UInt8=>i0 false x.1 x.2) fun x hx=>.val _ _ ((hs x hx).mono (by decide))) (hz _ _)
  have f:=nQ (its:=L.map fun x=>(x.2,g x.1)) ht (all_map' (P:=fun x:D×List UInt8=>Frag x.2) hf)
  have e:=mN nt (L.map fun x=>(x.2,g x.1))
  rw[Ae,uv (h1 _),List.map_map] at s f e
  rw[List.map_map] at s
  have l:=iO [32] (M:=4000) (by decide) (L.map fun x=>g x.1) (all_map' (P:=fun t:List UInt8=>t.length<=4000) hl2)
  have l2:(L.map fun x=>g x.1).length*(4000+10)<=3*4010:=Nat.mul_le_mul_right _ (by rw[TN];exact hl)
  exact⟨s,f,e,tr (la (TG _) (la (Ta l l2) (TG _))) rfl⟩
 have a:=all (·.free) (fun x hx=>(hL x hx).1) (fun x hx=>(hL x hx).2.2.2.2.1) (fun x hx=>(hL x hx).2.2.2.2.2.2.1)
 have b:=all (·.plain) (fun x hx=>(hL x hx).2.1) (fun x hx=>(hL x hx).2.2.2.2.2.1) (fun x hx=>(hL x hx).2.2.2.2.2.2.2)
 have w:=AQ (its:=L.map fun x=>(x.2,x.1.plain)) ht (all_map' (P:=fun x:D×List UInt8=>sG 7 x.1 x.2) fun x hx=>(hL x hx).2.2.2.1.mono (by decide)) (hz _ _)
 rw[Ae,uv (h1 _),List.map_map,List.map_map] at w
 have t:=Tells.list 2 ((.atom nt,.tuple [.str dE,.str nt])::L.map fun x=>(x.2,x.1.told)) (mU (P:=fun x:D×D=>Tells 2 x.1 x.2) (.atom _ _) (all_map' (P:=fun x:D×D=>Tells 2 x.1 x.2) fun x hx=>(hL x hx).2.2.1)) (tr (Nat.succ_le_succ (hz _ _)) rfl)
 rw[List.map_cons,List.map_cons,List.map_map,List.map_map] at t
 rw[List.map_map,List.map_map,List.map_map]
 exact⟨.list (.atom nt::L.map (·.2)),3,by decide,a.1,b.1,w,t,a.2.1,b.2.1,a.2.2.1,b.2.2.1,a.2.2.2,b.2.2.2⟩
end
section
noncomputable def uL(i:Nat):Prop:=∀ ⦃n:Nat⦄ ⦃μ:Mu⦄ ⦃I:gF⦄ ⦃B:Nat⦄ ⦃Q:KV⦄,3<=μ.length->cj B I->B+10000<=10^80->(∀w I',bk w->cj (B+10000) I'->Q (.d w.d) (ik μ I'))->ae (n+40) i [.loc 2] (ik μ I) Q
theorem bs{B j k:Nat}(h:B+k<=10^80)(hj:Nat.ble j k=true):B+j<=10^80:=Ta (Nat.add_le_add_left (TF hj) B) h
theorem im{B j k:Nat}{I:gF}(h:cj (B+j) I)(hj:Nat.ble j k=true):cj (B+k) I:=h.mono (Nat.add_le_add_left (TF hj) B)
theorem kh{T:List Nat}(h:∀c∈T,c<128):∀c∈T,c<256:=fun c hc=>Nat.lt_trans (h c hc) (by decide)
section
variable{n:Nat}{μ:Mu}{I I0:gF}{k B:Nat}{Q:KV}{c1 c2 c3:aI}
theorem k4(h:3<=μ.length):3<=(μ++[c1,c2]).length:=by rw[TM];exact Ta h (Nat.le_add_right ..)
theorem Ak{U T tag:List Nat}{c:Row}{v3 v8 v9 v10 v11:Option V}(hk:3<=μ.length)(hI:cj B I)(hB:B+1<=10^80)(hU:U∈bX)(hT:T∈er)(htag:um tag U)(hc:sH c)(q:∀w I',bk w->cj (B+1) I'->Q (.d w.d) (ik μ I')):
  aA (n+39) (d6.body.drop 4) ⟨[some (.str U),some (.str T),some (.str tag),v3,some (.bytes (aa (tag++[32]))),some (.d c.told),some (.bytes c.free),some (.bytes c.plain),v8,v9,v10,v11],[μ.length,μ.length+1]⟩ (ik (μ++[.cell (some (.loc 2)),c2]) I) (aR (ik μ I0) Q):=by
 have ht:=zy hT
 have hl:(aa T).length<=20:=aL T▸ht.len
 have hUk:U∈D8:=List.mem_append_left _ (List.mem_append_left _ (List.mem_append_left _ (List.mem_append_left _ hU)))
 have hU2:(∀c∈U,c<128)/\U.length<=10:=(by decide:∀x∈bX,(∀c∈x,c<128)/\x.length<=10) U hU
 have hUo:(aa U).length<=20:=aL U▸tr hU2.2 rfl
 have hta:∀tag∈([[42],[97,49],[84,46,57]]:List (List Nat)),(aa (tag++[32])).length<=4:=by decide
 have g4:=hta tag (htag.elim (fun e=>e▸.head _) fun h=>.tail _ h.1)
 have hc':=hc
 obtain⟨cd,r,hr,_,_,_,_,_,_,_,_,l1,l2⟩:=hc'
 have hT2:(aa T++[13,10]).length<=20+2:=la hl (TG _)
 refine az (kh ht.lt) (tr ht.len rfl) ⟨ll hl (TG _) rfl,hU2.1,tr hU2.2 rfl,TF rfl,bU hk (gC (k4 hk) hI (Nat.le_of_succ_le hB) hU2.1 (tr hU2.2 rfl) fun w hw I' hI'=>?_)⟩
 obtain⟨s1,s2,s3⟩:=av hUk hw
 have hrow:=DT hU hT htag hw hc
 rw[TP _ (aa T),TP _ (aa T)] at hrow
 exact⟨ll g4 s3 rfl,ll (la g4 s3) (TG _) rfl,ll (la (la g4 s3) (TG _)) l1 rfl,ll (la (la (la g4 s3) (TG _)) l1) hT2 rfl,
  az (kh hU2.1) (tr hU2.2 rfl) ⟨ll g4 hUo rfl,ll (la g4 hUo) (TG _) rfl,ll (la (la g4 hUo) (TG _)) l2 rfl,ll (la (la (la g4 hUo) (TG _)) l2) hT2 rfl,TF rfl,gQ hk (q _ I' hrow hI')⟩⟩
end
end
section
variable{n:Nat}{μ ν:Mu}{I I0:gF}{k B:Nat}{Q:KV}{c1 c2 c3:aI}
theorem LM{nl:Nat}{elt:Ex}{tg:Tg}{ifs:List Ts}{g:Option (Nat×List D)}{items:List V}{cs:List Nat}(hk:3<=ν.length)(hl:items.length<=lim)(h:wC n elt tg ifs items g ⟨List.replicate nl none,ν.length::cs⟩ (ik (ν++[.cell none]) I) (Gf (ik ν I) Q)):DO n false elt tg ifs nl 1 (some cs) Q items g (ik ν I):=by
 unfold DO
 refine⟨hl,?_⟩
 show wC n elt tg ifs items g ⟨_,(ik ν I).length::cs⟩ (ik ν I++[.cell none]) _
 rw[cn,dZ hk];exact h
theorem vV{x y:aI}{K:Mu->Prop}(hk:3<=ν.length)(q:K (ik (ν++[y]) I)):lX ν.length y (ik (ν++[x]) I) K:=by
 unfold lX
 rw[<-dZ hk,List.set_append_right _ _ (Nat.le_of_eq cn),cn,Nat.sub_self]
 exact(dZ hk [y]).symm▸q
theorem D_{K:Mu->Prop}(hk:3<=μ.length)(q:K (ik (μ++[c1,c3]) I)):lX (μ.length+1) c3 (ik (μ++[c1,c2]) I) K:=by
 unfold lX
 rw[<-dZ hk,List.set_append_right _ _ (by rw[cn];exact Nat.le_add_right _ 1),cn,Nat.add_sub_cancel_left]
 exact(dZ hk [c1,c3]).symm▸q
theorem Qr{Q:aI->Prop}(h:3<=μ.length)(q:Q c2):iy (ik (μ++[c1,c2]++[c3]) I) (μ.length+1) Q:=
 aS ((ea (Nat.ne_of_gt (Nat.lt_succ_of_lt (LN h))) (Nat.ne_of_gt (Nat.lt_succ_of_lt h))).trans ((List.getElem?_append_left (by rw[TM];exact Nat.lt_succ_self _)).trans Ab)) q
noncomputable abbrev St.tl:St->List St|.aT a b o=>o|_=>[]
noncomputable abbrev Rl:St:=d6.at 3
noncomputable abbrev Ti:St:=(Rl.tl.headD .stop).tl.headD .stop
noncomputable abbrev endTags:List (List Nat):=[[97,49],[42],[84,46,57]]
noncomputable abbrev PV(μ:Mu)(U T tag:List Nat)(v3:V):Fr:=⟨[some (.str U),some (.str T),some (.str tag),some v3,some (.bytes (aa (tag++[32]))),some (.d .none),some (.bytes []),some (.bytes []),none,none,none,none],[μ.length,μ.length+1]⟩
noncomputable abbrev Pj:Ex:=.bin .add (.bin .add (.const (.d (.bytes [91,67,79,80,89,85,73,68,32]))) (.ag (.const (.d (.bytes [32]))) .join [(.comp false (.sub (.lv 1) (.cv 0)) (.lv 1) (.ex (.cv 1)) [] 2 0 [0])])) (.const (.d (.bytes [93,32])))
theorem HQ{ws:List Row}{g:Row->List UInt8}{fr:List (Option V)}{K:KV}(j:Nat)(hg:∀w:Row,[w.told,.bytes w.free,.bytes w.plain][j]? =some (.bytes (g w)))(hk:3<=μ.length)(hwl:ws.length<=lim)(hl:(nh (ws.map g)).length<=50000)(q:K (.bytes (nh (ws.map g))) (ik (μ++[c1,.cell (some (.d (.list (ws.map Row.d))))]++[.cell (some (.int (j:Int)))]) I)):
  eE n Pj ⟨fr,[(μ++[c1,.cell (some (.d (.list (ws.map Row.d))))]).length,μ.length+1]⟩ (ik (μ++[c1,.cell (some (.d (.list (ws.map Row.d))))]++[.cell (some (.int (j:Int)))]) I) K:=by
 have hj:(aq [32] (ws.map g)).length<=50000:=by rw[nh,TM,TM] at hl;exact Ta (Ta (Nat.le_add_right ..) (Nat.le_add_left ..)) hl
 exact Qr hk (id_map hwl (aQ (fun w:Row=>D.bytes (g w)) rfl hwl (fun w hw K hK=>fs (k4 hk) (ah (hg w) (TF rfl) hK)) (dA (bP g ws) ⟨tr hj rfl,ll (TG _) hj rfl,ll (la (TG _) hj) (TG _) rfl,q⟩)))
theorem H0{U T tag:List Nat}{x:V}(hk:3<=μ.length)(hI:cj (B+10) I)(hB:B+10000<=10^80){c2:aI}{K:KS}
  (q:∀(c:Row) (v3 v8 v9 v10 v11:Option V) (c2:aI) (I':gF),cj (B+9000) I'->sH c->K .next ⟨[some (.str U),some (.str T),some (.str tag),v3,some (.bytes (aa (tag++[32]))),some (.d c.told),some (.bytes c.free),some (.bytes c.plain),v8,v9,v10,v11],[μ.length,μ.length+1]⟩ (ik (μ++[.cell (some (.loc 2)),c2]) I')):
  aA (n+39) Rl.wb (PV μ U T tag x) (ik (μ++[.cell (some (.loc 2)),c2]) I) K:=by
 refine bU hk ⟨TF rfl,dF (l:=wo.map .str) (k4 hk) hI (bs (B:=B) (j:=10) hB rfl) (.inl rfl) nofun (TF rfl) fun y hy I' hI'=>?_⟩
 obtain⟨t,ht,rfl⟩:=List.mem_map.mp hy
 have hh:=p_ (List.mem_append_left _ ht)
 have hl:(aa t).length<=20:=aL t▸hh.len
 exact⟨TF rfl,TF rfl,az (kh hh.lt) (tr hh.len rfl) ⟨ll (TG _) hl rfl,ll (la (TG _) hl) (TG _) rfl,TF rfl,q ⟨.tuple [.tuple [.str dE,.str t]],91::(aa t++[93,32]),91::(aa t++[93,32])⟩ _ _ _ _ _ _ I' (im (B:=B) (j:=11) hI' rfl) (zN ht)⟩⟩
theorem JO{U T tag:List Nat}{x:V}(hk:3<=μ.length)(hI:cj (B+10) I)(hB:B+10000<=10^80){c2:aI}{K:KS}
  (q:∀(c:Row) (v3 v8 v9 v10 v11:Option V) (c2:aI) (I':gF),cj (B+9000) I'->sH c->K .next ⟨[some (.str U),some (.str T),some (.str tag),v3,some (.bytes (aa (tag++[32]))),some (.d c.told),some (.bytes c.free),some (.bytes c.plain),v8,v9,v10,v11],[μ.length,μ.length+1]⟩ (ik (μ++[.cell (some (.loc 2)),c2]) I')):
  aA (n+39) (Rl.tl.headD .stop).wb (PV μ U T tag x) (ik (μ++[.cell (some (.loc 2)),c2]) I) K:=
 bU hk (oB (B:=B+10) (k4 hk) hI (bs (B:=B) (j:=20) hB rfl) fun ws I' hws hW hI'=>
  ⟨TF rfl,TF rfl,ll (TG _) (d9 hW hws) rfl,ll (la (TG _) (d9 hW hws)) (TG _) rfl,TF rfl,
   q ⟨.tuple [.tuple [.str dE,.str jH],.tuple (ws.map fun w=>.tuple [.str dE,.str w])],uB ws,uB ws⟩ _ _ _ _ _ _ I' (im (B:=B) (j:=20) hI' rfl) (DV hW hws)⟩)
theorem Jy{U T tag:List Nat}{x:V}(hk:3<=μ.length)(hI:cj (B+10) I)(hB:B+10000<=10^80){c2:aI}{K:KS}(hc2:∃v,c2=.cell v)
  (q:∀(c:Row) (v3 v8 v9 v10 v11:Option V) (c2:aI) (I':gF),cj (B+9000) I'->sH c->K .next ⟨[some (.str U),some (.str T),some (.str tag),v3,some (.bytes (aa (tag++[32]))),some (.d c.told),some (.bytes c.free),some (.bytes c.plain),v8,v9,v10,v11],[μ.length,μ.length+1]⟩ (ik (μ++[.cell (some (.loc 2)),c2]) I')):
  aA (n+39) Ti.wb (PV μ U T tag x) (ik (μ++[.cell (some (.loc 2)),c2]) I) K:=by
 obtain⟨v,rfl⟩:=hc2
 refine bU hk (cf (m:=2) (k4 hk) hI (bs (B:=B) (j:=10) hB rfl) (by decide) (TF rfl) fun y I1 hy hI1=>⟨Int.natCast_nonneg (1+y),Int.ofNat_le.mpr (Ta (Nat.add_le_add_left (Nat.le_of_lt hy) 1) (TF rfl)),?_⟩)
 have hm:(List.range (1+y)).length<=3:=by rw[List.length_range];omega
 have hcm:B+10+1+(List.range (1+y)).length*DC 2<=B+9000:=by
  have:(List.range (1+y)).length*DC 2<=3*320:=Nat.mul_le_mul_right 320 hm
  omega
 refine mz (items:=(List.range (1+y)).map fun i:Nat=>V.int (i:Int)) (by rw[TN];exact tr hm rfl) (iT (DC 2) (fun w:Row=>w.d) (n_ 2) (fun i:Nat=>V.int (i:Int)) rfl (List.range (1+y)) .same hI1 (Ta hcm (bs (B:=B) (j:=9000) hB rfl)) (fun z hz B2 I2 K hI2 hB2 hK=>bU hk (tR 2 (n:=n+27) (dep:=1) rfl (k4 hk) hI2 hB2 hK)) (fun ws I3 hws hW hI3=>lG (k4 hk) ?_))
 have hws0:ws≠[]:=fun e=>by rw[e,List.length_range] at hws;exact nomatch (Nat.add_comm 1 y▸hws)
 have hws:ws.length<=3:=hws▸hm
 have hwl:ws.length<=lim:=tr hws rfl
 have hcr:=D0 hW hws0 hws
 have hcr':=hcr
 obtain⟨_,_,_,_,_,_,_,_,_,_,_,hlf,hlp⟩:=hcr'
 have ht:(ws.map Row.told).length<=3:=by rw[TN];exact hws
 refine jL hk (D_ hk ⟨TF rfl,TF rfl,jL hk (id_map hwl (aQ (fun w:Row=>w.told) rfl hwl (fun w hw K hK=>ah (a:=0) rfl (TF rfl) hK) ⟨tr ht rfl,ll (TG _) ht rfl,TF rfl,TF rfl,LM (k4 hk) (TF rfl) ?_⟩))⟩)
 refine bZ ay (fs (k4 hk) (vV (k4 hk) (HQ 1 (g:=fun w=>w.free) (fun w=>rfl) hk hwl hlf (bZ ay (fs (k4 hk) (vV (k4 hk) (HQ 2 (g:=fun w=>w.plain) (fun w=>rfl) hk hwl hlp (fJ ay (gQ (k4 hk) ?_)))))))))
 exact q _ _ _ _ _ _ _ _ (hI3.mono hcm) hcr
theorem AP{U T tag:List Nat}{x:Nat}(hk:3<=μ.length)(hI:cj (B+10) I)(hB:B+10000<=10^80)(hU:U∈bX)(hT:T∈er)(htag:um tag U)(q:∀w I',bk w->cj (B+10000) I'->Q (.d w.d) (ik μ I')):
  aA (n+39) (d6.body.drop 3) (PV μ U T tag (.int (x:Int))) (ik (μ++[.cell (some (.loc 2)),.cell none]) I) (aR (ik μ I0) Q):=by
 have tail (c:Row) (v3 v8 v9 v10 v11:Option V) (c2:aI) (I':gF) (hI':cj (B+9000) I') (hc:sH c):=Ak (n:=n) (μ:=μ) (I0:=I0) (U:=U) (T:=T) (tag:=tag) (c:=c) (v3:=v3) (v8:=v8) (v9:=v9) (v10:=v10) (v11:=v11) (c2:=c2) hk hI' (bs (B:=B) (j:=9001) hB rfl) hU hT htag hc (fun w I'' hw hI''=>q w I'' hw (im (B:=B) (j:=9001) hI'' rfl))
 by_cases h1:(x:Int)=1
 ·exact ak h1 (H0 hk hI hB tail)
 by_cases h2:(x:Int)=2
 ·exact ai h1 (ak h2 (JO hk hI hB tail))
 by_cases h3:(x:Int)=3
 ·exact ai h1 (ai h2 (ak h3 (Jy hk hI hB ⟨_,rfl⟩ tail)))
 ·exact ai h1 (ai h2 (ai h3 (tail ⟨.none,[],[]⟩ _ _ _ _ _ _ I (im hI rfl) DE)))
theorem Eb:uL 94:=by
 intro n μ I B Q hk hI hB q
 have hk':3<=(μ++[aI.cell (some (V.loc 2)),.cell none]).length:=k4 hk
 refine DZ ?_
 rw[cn,dZ hk]
 refine bU hk ⟨TF rfl,dF (l:=bX.map .str) hk' hI (bs (j:=0) hB rfl) (.inl rfl) nofun (TF rfl) fun y hy I1 hI1=>?_⟩
 obtain⟨U,hU,rfl⟩:=List.mem_map.mp hy
 refine bU hk (dF (l:=er.map .str) hk' hI1 (bs hB rfl) (.inl rfl) nofun (TF rfl) fun y hy I2 hI2=>⟨TF rfl,TF rfl,?_⟩)
 obtain⟨T,hT,rfl⟩:=List.mem_map.mp hy
 have fin (tag:List Nat) (I3:gF) (hI3:cj (B+4) I3) (htag:um tag U) (htg:tag∈endTags):ae (n+39) 85 [.loc 2,.int 4] (ik (μ++[.cell (some (.loc 2)),.cell none]) I3) (J2 (eL (n+39) [] ⟨[some (.str U),some (.str T),none,none,none,none,none,none,none,none,none,none],[μ.length,μ.length+1]⟩) (OV (.str tag) (QH (FY (eA (n+39) (.tup [.lv 2,.lv 3])) ⟨[some (.str U),some (.str T),none,none,none,none,none,none,none,none,none,none],[μ.length,μ.length+1]⟩ (Az (aA (n+39) (d6.body.drop 2)) (aR (ik μ I) Q)))))):=by
  have hta:∀tag∈endTags,tag.length<=3/\∀c∈tag++[32],c<256:=by decide
  have h:=hta tag htg
  exact cf (m:=4) hk' hI3 (bs (B:=B) (j:=4) hB rfl) (by decide) (TF rfl) fun x I4 hx hI4=>⟨TF rfl,ll h.1 (TG _) rfl,az h.2 (tr (la h.1 (TG _)) rfl) ⟨TF rfl,AP (x:=x) hk (im (B:=B) (j:=5) hI4 rfl) hB hU hT htag q⟩⟩
 by_cases hb:U∈([[66,89,69],[80,82,69,65,85,84,72]]:List (List Nat))
 ·exact ak hb (bU hk (fin [42] I2 (im (B:=B) (j:=2) hI2 rfl) (.inl rfl) (.tail _ (.head _))))
 ·refine ai hb (bU hk ⟨TF rfl,dF (l:=endTags.map .str) hk' hI2 (bs (B:=B) (j:=2) hB rfl) (.inl rfl) nofun (TF rfl) fun y hy I3 hI3=>?_⟩)
  obtain⟨tag,htg,rfl⟩:=List.mem_map.mp hy
  have hu:U≠[66,89,69]/\U≠[80,82,69,65,85,84,72]:=⟨fun e=>hb (e▸.head _),fun e=>hb (e▸.tail _ (.head _))⟩
  have htag:um tag U:=by
   cases htg with
   |head=>exact .inr ⟨.head _,hu⟩
   |tail _ htg=>cases htg with
    |head=>exact .inl rfl
    |tail _ htg=>cases htg with
     |head=>exact .inr ⟨.tail _ (.head _),hu⟩
     |tail _ htg=>cases htg
  exact bU hk (fin tag I3 (im (B:=B) (j:=3) hI3 rfl) htag htg)
end
theorem iB{m:Nat}(h:m<10^19):m<10^90:=Nat.lt_trans h (TF rfl)
theorem bt(U:List Nat):bS U (aa U):=.inl rfl
theorem gH{m z:Nat}(hz:z+(dec m).length<=19):(bo m z).length<=19:=by rw[o6];exact hz
theorem mV{m:Nat}(hm:m<10^19):(bI m).length<=19:=iS (by decide) hm
theorem uf{a w:List UInt8}(hw:∀c∈w,c≠13/\c≠125)(h0:w≠[]):aX (a++w):=by
 unfold aX
 rw[List.getLast?_append]
 cases e:w.getLast? with
 |none=>exact absurd (List.getLast?_eq_none_iff.mp e) h0
 |some c=>exact fun h=>(hw c (List.mem_of_getLast? e)).2 (Option.some.inj h)
theorem P1(a b c d e:List UInt8):a++b++[32]++c++d=a++(b++32::c++d):=by rw[TP,TP,TP,TP];rfl
theorem KH{U:List Nat}{w:List UInt8}{m z:Nat}(hU:U∈([[69,88,73,83,84,83],[69,88,80,85,78,71,69]]:List (List Nat)))(hw:bS U w)(hm:m<10^19)(hz:z+(dec m).length<=19):
  bk ⟨.tuple [.str (ax U),.int (m:Int)],[42,32]++bo m z++[32]++w++[13,10],[42,32]++bI m++[32]++aa U++[13,10]⟩:=by
 have hUf:∀U∈([[69,88,73,83,84,83],[69,88,80,85,78,71,69]]:List (List Nat)),U∈D8/\ax U∈uy/\aK (ax U)=U/\aK (ax U)∉bX/\ax U≠tX/\(∀c∈ax U,c<128)/\(ax U).length<=20:=by decide+kernel
 obtain⟨hUk,u1,u2,u3,u4,u5,u6⟩:=hUf U hU
 obtain⟨s1,s2,s3⟩:=av hUk hw
 obtain⟨p1,p2,p3⟩:=av hUk (bt U)
 have hl1:=gH hz
 have hl2:=mV hm
 have r1:=aJ (ui (bN m z) (gA m z) hl1 s1 hU)
 have r2:=aJ (ui (bH m) (fe m) hl2 p1 hU)
 have hlu:(aK (ax U)).length<=20:=by rw[aK,TN];exact u6
 have wr:=cm (r:=[.int (m:Int)]) (TF rfl) u3 u4 u5 (tr u6 rfl) (aL _▸tr (la (la (eC (k:=19) (by decide) hm) (TG _)) hlu) rfl) (NV u1 (iB hm))
 rw[u2,cM,cM] at wr
 rw[fm,<-P1 _ _ _ _ []] at r1
 rw[fg,<-P1 _ _ _ _ []] at r2
 have fr {g w:List UInt8} (hg:∀c∈g,c≠13) (hw:∀c∈w,c≠13/\c≠125):Frag ([42,32]++g++[32]++w):=(((Frag.plain (by decide)).app (.plain hg)).app (.plain (by decide))).app (.plain fun c hc=>(hw c hc).1)
 have ln {g w:List UInt8} (hg:g.length<=19) (hw:w.length<=20):([42,32]++g++[32]++w++[13,10]).length<=100000:=tr (la (la (la (la (TG _) hg) (TG _)) hw) (TG _)) rfl
 refine⟨.tuple [.str (ax U),.int (m:Int)],1,by decide,bK r1 (fr (fR (bN m z)) s2) (uf s2 s1.2.1),bK r2 (fr (fR (bH m)) p2) (uf p2 p1.2.1),gv (.str _ _) (.int _ _),?_,ln hl1 s3,ln hl2 p3⟩
 show mD _ ([42,32]++bI m++[32]++aa U++[13,10])
 rw[P1 _ _ _ _ []]
 exact(TP (bI m) [32] (aa U))▸wr
structure PR where
 title:List Nat
 x:D
 free:List UInt8
 plain:List UInt8
noncomputable abbrev g_:List Nat:=[70,76,65,71,83]
noncomputable abbrev AB:List UInt8:=[70,76,65,71,83,32]
noncomputable abbrev PR.d(a:PR):D:=.tuple [.tuple [.str a.title,a.x],.bytes a.free,.bytes a.plain]
noncomputable def PR.fl(a:PR)(l:List UInt8):List UInt8:=if a.title=g_ then AB++l else l
noncomputable def PR.out(a:PR):Row:=⟨.tuple [.str a.title,a.x],a.fl a.free,a.fl a.plain⟩
noncomputable def w8(a:Row):Prop:=∃f:IB,cB (IE f) a.free/\cB (IE f) a.plain/\a.plain=Fw f/\yg f/\Tells 5 (IE f) a.told/\Frag a.free/\Frag a.plain/\a.free.length<=20000/\a.plain.length<=20000
theorem AR{ws:List (List Nat)}(h:∀w∈ws,w∈flagWords)(hl:ws.length<=3):w8 (PR.out ⟨g_,.tuple (ws.map fun w=>.tuple [.str dE,.str w]),ar (ws.map aa),ar (ws.map aa)⟩):=by
 have hz:ws.length<=lim:=tr hl rfl
 have hp:=cB.flags (ws.map aa) (d8 h) (by rw[TN];exact hz)
 rw[kQ,g7 h D.atom] at hp
 have hf:Frag (AB++ar (ws.map aa)):=(Frag.plain (by decide)).app (jy h)
 have hl':(AB++ar (ws.map aa)).length<=20000:=tr (la (TG _) (d9 h hl)) rfl
 exact⟨(g_,.list (ws.map .atom),ar (ws.map aa)),hp,hp,rfl,⟨(by decide:∀c∈g_,c<128),TF rfl,BB 6 h hz⟩,gv (.str 4 _) (r3 3 hz),hf,hf,hl',hl'⟩
noncomputable abbrev HS:List Nat:=[66,79,68,89,91,72,69,65,68,69,82,46,70,73,69,76,68,83,32,40,65,32,34,120,93,121,34,41,93,60,48,62]
noncomputable abbrev lg:List (List Nat):=[[66,79,68,89,83,84,82,85,67,84,85,82,69],[85,73,68],HS,[82,70,67,56,50,50,46,83,73,90,69]]
theorem Tells.mono{r:Nat}{x y:D}(h:Tells r x y):∀{r':Nat},r<=r'->Tells r' x y:=by
 induction h with
 |list r its h hz ih=>
  intro r' hr
  cases r' with
  |zero=>cases hr
  |succ s=>exact .list s its (fun x hx=>ih x hx (Nat.le_of_succ_le_succ hr)) hz
 |tuple r its h hz ih=>
  intro r' hr
  cases r' with
  |zero=>cases hr
  |succ s=>exact .tuple s its (fun x hx=>ih x hx (Nat.le_of_succ_le_succ hr)) hz
 |_=>intro r' hr;constructor
theorem Fp{t:List Nat}{w:Row}(ht:t∈lg)(hw:n_ 3 w):w8 (PR.out ⟨t,w.told,aa t++[32]++w.free,aa t++[32]++w.plain⟩):=by
 have hall:∀t∈lg,(((aa t≠[]/\∀c∈aa t,bc c.toNat=true))\/aa t=BD)/\codes (aa t)≠codes wG/\(∀c∈t,c<128)/\t.length<=40/\¬t=g_/\codes (aa t)=t/\∀c∈aa t,c≠13:=by decide+kernel
 obtain⟨a1,a2,a3,a4,a5,a6,a7⟩:=hall t ht
 obtain⟨d,h1,h2,h3,h4,f1,f2,l1,l2⟩:=hw
 have e (l:List UInt8):(PR.mk t w.told (aa t++[32]++w.free) (aa t++[32]++w.plain)).fl l=l:=if_neg a5
 have s {v:List UInt8} (h:cY 3 d v):cB (.tuple [.str t,d]) (aa t++[32]++v):=by
  have:=cB.val (aa t) d v a1 a2 (h.mono (by decide))
  rw[a6] at this
  rw[TP];exact this
 have f {v:List UInt8} (h:Frag v):Frag (aa t++[32]++v):=((Frag.plain a7).app (.plain (by decide))).app h
 have zt:(aa t++[32]).length<=40+1:=la (aL t▸a4) (TG 1)
 have l {v:List UInt8} (h:v.length<=LB 3):(aa t++[32]++v).length<=20000:=tr (la zt (Ta h (Qb (TG 2)))) rfl
 rw[PR.out,e,e]
 exact⟨(t,d,w.plain),s h1,s h2,rfl,⟨a3,tr a4 rfl,h4.mono (by decide)⟩,gv (.str 4 _) (h3.mono (by decide)),f f1,f f2,l l1,l l2⟩
theorem kS{a:List UInt8}{X:List (List UInt8)}:aX (a++ar X):=by
 have this:=aX.ends (a++40::aq [32] X) (b:=[41]) rfl (by decide)
 rw[TP] at this
 exact this
theorem DM{w:List UInt8}{m z:Nat}{as:List Row}(hw:bS [70,69,84,67,72] w)(hm:m<10^19)(hz:z+(dec m).length<=19)(ha:∀a∈as,w8 a)(hl:as.length<=3):
  bk ⟨.tuple [.str rM,.int (m:Int),.tuple (as.map (·.told))],[42,32]++bo m z++[32]++w++([32]++ar (as.map (·.free)))++[13,10],[42,32]++bI m++[32]++aa [70,69,84,67,72]++([32]++ar (as.map (·.plain)))++[13,10]⟩:=by
 obtain⟨L,rfl,hL⟩:=yD as ha
 rw[TN] at hl
 have hzl {β:Type} (f:Row×IB->β):(L.map f).length<=lim:=by rw[TN];exact tr hl rfl
 have hz3 {β:Type} (f:Row×IB->β):(L.map f).length<=3:=by rw[TN];exact hl
 obtain⟨s1,s2,s3⟩:=av (by decide) hw
 obtain⟨p1,p2,p3⟩:=av (U:=[70,69,84,67,72]) (by decide) (bt _)
 have hl1:=gH hz
 have hl2:=mV hm
 have r1:=aJ (xK (its:=L.map fun x=>(IE x.2,x.1.free)) (bN m z) (gA m z) hl1 s1 (all_map' (P:=fun x:D×List UInt8=>cB x.1 x.2) fun y hy=>(hL y hy).1) (hzl _))
 have r2:=aJ (xK (its:=L.map fun x=>(IE x.2,x.1.plain)) (bH m) (fe m) hl2 p1 (all_map' (P:=fun x:D×List UInt8=>cB x.1 x.2) fun y hy=>(hL y hy).2.1) (hzl _))
 rw[fm,gj,List.map_map,List.map_map] at r1
 rw[fg,gj,List.map_map,List.map_map] at r2
 have lf:(ar (L.map fun x=>x.1.free)).length<=80000:=iI (M:=20000) (all_map' (P:=fun t:List UInt8=>t.length<=20000) fun y hy=>(hL y hy).2.2.2.2.2.2.2.1) (hz3 _) (by decide)
 have lp:(ar (L.map fun x=>x.1.plain)).length<=80000:=iI (M:=20000) (all_map' (P:=fun t:List UInt8=>t.length<=20000) fun y hy=>(hL y hy).2.2.2.2.2.2.2.2) (hz3 _) (by decide)
 have ep:(L.map (·.2)).map Fw=L.map fun x=>x.1.plain:=by
  rw[List.map_map]
  exact List.map_congr_left fun y hy=>(hL y hy).2.2.1.symm
 have wu:=Gx (m:=m) (F:=L.map (·.2)) (iB hm) (all_map' (P:=yg) fun y hy=>(hL y hy).2.2.2.1) (hzl _) (by rw[ep];exact tr lp rfl)
 rw[ep] at wu
 have zt:(bI m++[32,70,69,84,67,72,32]).length<=19+7:=la hl2 (TG 7)
 have wr:=cm (TF rfl) (by decide) (by decide) (by decide) (by decide) (tr (la zt lp) rfl) wu
 have fr {g w:List UInt8} {X:List (List UInt8)} (hg:∀c∈g,c≠13) (hw:∀c∈w,c≠13/\c≠125) (hX:Frag (ar X)):Frag ([42,32]++g++[32]++w++([32]++ar X)):=((((Frag.plain (by decide)).app (.plain hg)).app (.plain (by decide))).app (.plain fun c hc=>(hw c hc).1)).app ((Frag.plain (by decide)).app hX)
 have en {a:List UInt8} {X:List (List UInt8)}:aX (a++([32]++ar X)):=by rw[<-TP];exact kS
 have ln {g w X:List UInt8} (hg:g.length<=19) (hw:w.length<=20) (hX:X.length<=80000):([42,32]++g++[32]++w++([32]++X)++[13,10]).length<=100000:=
  have a:([42,32]++g++[32]++w).length<=2+19+1+20:=la (la (la (TG 2) hg) (TG 1)) hw
  have b:([32]++X).length<=80001:=Nat.succ_le_succ hX
  tr (la (la a b) (TG 2)) rfl
 have as (g w X:List UInt8):[42,32]++(g++32::(w++32::X)++[13,10])=[42,32]++g++[32]++w++([32]++X)++[13,10]:=by simp only[TP,List.cons_append,List.nil_append]
 rw[as] at r1 r2
 have ff:Frag (ar (L.map fun x=>x.1.free)):=eU (all_map' fun y hy=>(hL y hy).2.2.2.2.2.1)
 have fp:Frag (ar (L.map fun x=>x.1.plain)):=eU (all_map' fun y hy=>(hL y hy).2.2.2.2.2.2.1)
 have ti:=Tells.tuple 5 (L.map fun x=>(IE x.2,x.1.told)) (all_map' (P:=fun x:D×D=>Tells 5 x.1 x.2) fun y hy=>(hL y hy).2.2.2.2.1) (hzl _)
 rw[List.map_map,List.map_map] at ti
 rw[List.map_map] at wr
 rw[List.map_map,List.map_map,List.map_map]
 refine⟨.tuple [.str rM,.int (m:Int),.tuple (L.map fun x:Row×IB=>IE x.2)],7,by decide,bK r1 (fr (fR (bN m z)) s2 ff) en,bK r2 (fr (fR (bH m)) p2 fp) en,qI (.str _ _) (.int _ _) ti,?_,ln hl1 s3 lf,ln hl2 p3 lp⟩
 have e (a X:List UInt8):a++[32,70,69,84,67,72,32]++X=a++[32]++aa [70,69,84,67,72]++([32]++X):=by rw[TP,TP,TP];rfl
 rw[e] at wr
 exact wr
section
variable{n:Nat}{μ:Mu}{I I0:gF}{k B:Nat}{Q:KV}{c1 c2 c3:aI}
noncomputable abbrev N5(μ:Mu)(acc:List PR):Mu:=μ++[.cell (some (.loc (μ.length+1))),.list (acc.map PR.d)]
noncomputable abbrev Ed:List (List Nat):=[[66,79,68,89,83,84,82,85,67,84,85,82,69],g_,[85,73,68],HS,[82,70,67,56,50,50,46,83,73,90,69]]
noncomputable abbrev Ri(v1 v2 v3 v4 v5 v6 v7 v8 v9 v10 v11:Option V)(m:Nat):Fr:=⟨[some (.loc 2),v1,v2,v3,v4,v5,v6,v7,v8,v9,v10,v11,none],[m]⟩
theorem xP{α:Type}{P:α->Prop}{l:List α}{a:α}(hl:∀x∈l,P x)(h:P a):∀x∈l++[a],P x:=fun x hx=>(List.mem_append.mp hx).elim (hl x) fun e=>List.eq_of_mem_singleton e▸h
theorem JQ{v1 v2 v3 v4:Option V}{Q:KS}(hk:3<=μ.length)(l:List Nat):∀(acc:List PR) {B:Nat} {I:gF} (v5 v6 v7 v8 v9 v10 v11:Option V),acc.length+l.length<=3->(∀a∈acc,w8 a.out)->cj B I->B+l.length*2000<=10^80->
  (∀(as:List PR) I' v5 v6 v7 v8 v9 v10 v11,as.length<=3->(∀a∈as,w8 a.out)->cj (B+l.length*2000) I'->Q .next (Ri v1 v2 v3 v4 v5 v6 v7 v8 v9 v10 v11 μ.length) (ik (N5 μ as) I'))->
  wF (n+30) (.lv 5) (l.map fun i:Nat=>V.int (i:Int)) none (b_.at 4).wb (Ri v1 v2 v3 v4 v5 v6 v7 v8 v9 v10 v11 μ.length) (ik (N5 μ acc) I) Q:=by
 induction l with
 |nil=>exact fun acc {B I} v5 v6 v7 v8 v9 v10 v11 hl ha hI hB q=>n8 ay (q acc I _ _ _ _ _ _ _ hl ha hI)
 |cons x l ih=>
  intro acc B I v5 v6 v7 v8 v9 v10 v11 hl ha hI hB q
  have hc:B+(x::l).length*2000=B+2000+l.length*2000:=by rw[List.length_cons,Nat.succ_mul,Nat.add_comm (l.length*2000),Nat.add_assoc]
  have hacc:(acc.map PR.d).length<lim:=by rw[TN];exact Nat.lt_of_le_of_lt (Ta (Nat.le_add_right ..) hl) (TF rfl)
  rw[hc] at hB q
  have hl2 {a:PR}:(acc++[a]).length+l.length<=3:=by rw[TM,Nat.add_assoc,Nat.add_comm [a].length];exact hl
  have hBB:B+2000<=10^80:=Ta (Nat.le_add_right ..) hB
  refine kM ay ⟨TF rfl,dF (l:=Ed.map .str) (k4 hk) hI (bs (B:=B) (j:=0) hBB rfl) (.inl rfl) nofun (TF rfl) fun y hy I1 hI1=>?_⟩
  obtain⟨t,ht,rfl⟩:=List.mem_map.mp hy
  by_cases hF:t=g_
  ·subst hF
   refine oB (B:=B+1) (k4 hk) hI1 (bs (B:=B) (j:=11) hBB rfl) fun ws I2 hws hW hI2=>bU hk (jL hk ⟨TF rfl,TF rfl,jL hk ⟨hacc,D_ hk ?_⟩⟩)
   have this:=ih (acc++[⟨g_,.tuple (ws.map fun w=>.tuple [.str dE,.str w]),ar (ws.map aa),ar (ws.map aa)⟩]) (some (.int (x:Int))) (some (.str g_)) (some (.d (.tuple (ws.map .str)))) (some (.d (.tuple (ws.map fun w=>.tuple [.str dE,.str w])))) (some (.bytes (ar (ws.map aa)))) v10 v11 hl2 (xP ha (AR hW hws)) (im (B:=B) (j:=11) (k:=2000) hI2 rfl) hB q
   rw[N5,List.map_append] at this
   exact this
  ·have htv:t∈lg:=by
    cases ht with
    |head=>exact .head _
    |tail _ ht=>cases ht with
     |head=>exact absurd rfl hF
     |tail _ ht=>exact .tail _ ht
   have ht2:(∀c∈t,c<256)/\t.length<=40:=(by decide:∀t∈lg,(∀c∈t,c<256)/\t.length<=40) t htv
   have hto:(aa t).length<=40:=aL t▸ht2.2
   refine ai hF (tR 3 (n:=n+17) (dep:=0) rfl (k4 hk) hI1 (bs (B:=B) (j:=1281) hBB rfl) fun w I2 hw hI2=>?_)
   have hw':=hw
   obtain⟨_,_,_,_,_,_,_,l1,l2⟩:=hw'
   have l1:=Ta l1 (Qb (TG 2))
   have l2:=Ta l2 (Qb (TG 2))
   have zt:(aa t++[32]).length<=40+1:=la hto (TG 1)
   refine bU hk (jL hk ⟨TF rfl,az ht2.1 (tr ht2.2 rfl) ⟨ll hto (TG _) rfl,ll zt l1 rfl,az ht2.1 (tr ht2.2 rfl) ⟨ll hto (TG _) rfl,ll zt l2 rfl,TF rfl,jL hk ⟨hacc,D_ hk ?_⟩⟩⟩⟩)
   have this:=ih (acc++[⟨t,w.told,aa t++[32]++w.free,aa t++[32]++w.plain⟩]) (some (.int (x:Int))) (some (.str t)) v7 (some (.d w.told)) v9 (some (.bytes w.free)) (some (.bytes w.plain)) hl2 (xP ha (Fp htv hw)) (im (B:=B) (j:=1281) (k:=2000) hI2 rfl) hB q
   rw[N5,List.map_append] at this
   exact this
end
section
variable{n:Nat}{μ:Mu}{I I0:gF}{k B:Nat}{Q:KV}{c1 c2 c3:aI}
theorem Ol{K:Mu->Prop}{l:Mu}(hk:3<=μ.length)(q:K (ik (μ++c3::l) I)):lX μ.length c3 (ik (μ++c1::l) I) K:=by
 unfold lX
 rw[<-dZ hk,List.set_append_right _ _ (Nat.le_of_eq cn),cn,Nat.sub_self]
 exact(dZ hk (c3::l)).symm▸q
theorem Qn{Q:aI->Prop}(h:3<=μ.length)(q:Q c1):iy (ik (μ++[c1,c2]++[c3]) I) μ.length Q:=by
 rw[TP];exact bU (l:=[c2,c3]) h q
theorem Px{x:aI}(hk:3<=μ.length)(q:Q (.loc (μ.length+1)) (ik (μ++[c1,x]) I)):w9 x (ik (μ++[c1]) I) Q:=by
 unfold w9
 rw[cn,dZ (k3 hk),TP,TM]
 exact q
theorem IZ{g:Option (Nat×List D)}{ν:Mu}(hg:Ef g ν)(as:List PR):∀(v0 v1 v2 v3:Option V) {Q:KD},(∀a∈as,w8 a.out)->Q (as.map fun a=>a.out.d) ν->
  wC n (.tuple [(.lv 1),(.aT (.val (.cmp (.sub (.lv 1) (.const (.d (.int 0)))) .eq (.const (.d (.str [70,76,65,71,83]))))) (.bin .add (.const (.d (.bytes [70,76,65,71,83,32]))) (.lv 2)) (.lv 2)),(.aT (.val (.cmp (.sub (.lv 1) (.const (.d (.int 0)))) .eq (.const (.d (.str [70,76,65,71,83]))))) (.bin .add (.const (.d (.bytes [70,76,65,71,83,32]))) (.lv 3)) (.lv 3))]) (.tup [(.lv 1),(.lv 2),(.lv 3)]) [] (as.map fun a=>V.d a.d) g ⟨[v0,v1,v2,v3],[]⟩ ν Q:=by
 induction as with
 |nil=>exact fun v0 v1 v2 v3 Q ha q=>fJ hg q
 |cons a as ih=>
  intro v0 v1 v2 v3 Q ha q
  obtain⟨_,_,_,_,_,_,_,_,l1,l2⟩:=ha a (.head _)
  have go (F P:List UInt8) (hF:a.fl a.free=F) (hP:a.fl a.plain=P):wC n (.tuple [(.lv 1),(.aT (.val (.cmp (.sub (.lv 1) (.const (.d (.int 0)))) .eq (.const (.d (.str [70,76,65,71,83]))))) (.bin .add (.const (.d (.bytes [70,76,65,71,83,32]))) (.lv 2)) (.lv 2)),(.aT (.val (.cmp (.sub (.lv 1) (.const (.d (.int 0)))) .eq (.const (.d (.str [70,76,65,71,83]))))) (.bin .add (.const (.d (.bytes [70,76,65,71,83,32]))) (.lv 3)) (.lv 3))]) (.tup [(.lv 1),(.lv 2),(.lv 3)]) [] (as.map fun a=>V.d a.d) g ⟨[v0,some (.d (.tuple [.str a.title,a.x])),some (.bytes a.free),some (.bytes a.plain)],[]⟩ ν (fun ds=>Q (.tuple [.tuple [.str a.title,a.x],.bytes F,.bytes P]::ds)):=by
   subst hF hP
   exact ih (Q:=fun ds=>Q (a.out.d::ds)) _ _ _ _ (fun y hy=>ha y (.tail _ hy)) q
  refine bZ hg (ah (a:=0) rfl (TF rfl) ?_)
  by_cases hF:a.title=g_
  ·have z {l:List UInt8} (h:(a.fl l).length<=20000):([70,76,65,71,83,32]:List UInt8).length+l.length<=lim:=by rw[PR.fl,if_pos hF,TM] at h;exact tr h rfl
   exact ak hF ⟨z l1,ah (a:=0) rfl (TF rfl) (ak hF ⟨z l2,TF rfl,go _ _ (if_pos hF) (if_pos hF)⟩)⟩
  ·exact ai hF (ah (a:=0) rfl (TF rfl) (ai hF ⟨TF rfl,go _ _ (if_neg hF) (if_neg hF)⟩))
noncomputable abbrev Od:Ex:=.bin .add (.bin .add (.const (.d (.bytes [32,40]))) (.ag (.const (.d (.bytes [32]))) .join [(.comp false (.sub (.lv 1) (.cv 0)) (.lv 1) (.ex (.cv 1)) [] 2 0 [0])])) (.const (.d (.bytes [41,13,10])))
noncomputable abbrev P7(L:List (List UInt8)):List UInt8:=[32,40]++aq [32] L++[41,13,10]
theorem HT{L:List (List UInt8)}(h:(aq [32] L).length<=60030):(P7 L).length<=2+60030+3:=la (la (TG 2) h) (TG 3)
theorem GK{ws:List Row}{g:Row->List UInt8}{fr:List (Option V)}{K:KV}(j:Nat)(hg:∀w:Row,[w.told,.bytes w.free,.bytes w.plain][j]? =some (.bytes (g w)))(hk:3<=μ.length)(hwl:ws.length<=lim)(hl:(aq [32] (ws.map g)).length<=60030)(q:K (.bytes (P7 (ws.map g))) (ik (μ++[.cell (some (.d (.list (ws.map Row.d)))),c2]++[.cell (some (.int (j:Int)))]) I)):
  eE n Od ⟨fr,[(μ++[.cell (some (.d (.list (ws.map Row.d)))),c2]).length,μ.length]⟩ (ik (μ++[.cell (some (.d (.list (ws.map Row.d)))),c2]++[.cell (some (.int (j:Int)))]) I) K:=
 Qn hk (id_map hwl (aQ (fun w:Row=>D.bytes (g w)) rfl hwl (fun w hw K hK=>fs (k4 hk) (ah (hg w) (TF rfl) hK)) (dA (bP g ws) ⟨tr hl rfl,ll (TG 2) hl rfl,ll (la (TG 2) hl) (TG 3) rfl,q⟩)))
theorem FF(X:List UInt8)(L:List (List UInt8)):X++([32]++ar L)++[13,10]=X++P7 L:=by
 rw[TP X]
 exact congrArg (fun l=>X++32::40::l) (TP ..)
theorem Bo{m z:Nat}{as:List PR}{v5 v6 v7 v8 v9 v10 v11:Option V}(hk:3<=μ.length)(hI:cj B I)(hB:B+10<=10^80)(hm:m<10^19)(hz:z+(dec m).length<=19)(ha:∀a∈as,w8 a.out)(hl:as.length<=3)(q:∀w I',bk w->cj (B+10) I'->Q (.d w.d) (ik μ I')):
  aA (n+39) (b_.body.drop 5) (Ri (some (.int (m:Int))) (some (.bytes (bo m z))) (some (.bytes (bI m))) (some (.str [70,69,84,67,72])) v5 v6 v7 v8 v9 v10 v11 μ.length) (ik (N5 μ as) I) (aR (ik μ I0) Q):=by
 have hal:as.length<=lim:=tr hl rfl
 have hg:Ef (some (μ.length+1,as.map PR.d)) (ik (N5 μ as) I):=fun k l h=>by cases h;exact(ea (Nat.ne_of_gt (Nat.lt_succ_of_lt (LN hk))) (Nat.ne_of_gt (Nat.lt_succ_of_lt hk))).trans Ab
 have hal3:(as.map PR.out).length<=3:=by rw[TN];exact hl
 have hal2:(as.map PR.out).length<=lim:=tr hal3 rfl
 have fr:=all_map' (P:=w8) (f:=PR.out) ha
 have jl (g:Row->List UInt8) (h:∀a∈as.map PR.out,(g a).length<=20000):(aq [32] ((as.map PR.out).map g)).length<=60030:=
  have z:((as.map PR.out).map g).length<=3:=by rw[TN];exact hal3
  Ta (iO [32] (M:=20000) (by decide) _ (all_map' (P:=fun t:List UInt8=>t.length<=20000) h)) (Nat.mul_le_mul_right 20010 z)
 have j1:=jl Row.free fun a h=>(fr a h).elim fun _ h=>h.2.2.2.2.2.2.2.1
 have j2:=jl Row.plain fun a h=>(fr a h).elim fun _ h=>h.2.2.2.2.2.2.2.2
 have mm:(as.map fun a=>a.out.d)=(as.map PR.out).map Row.d:=by rw[List.map_map];rfl
 refine bU hk (jL hk ⟨by rw[TN];exact hal,?_⟩)
 rw[List.map_map]
 refine mz (by rw[TN];exact hal) (IZ hg as none none none none ha (ab (bU hk (Ol hk ?_))))
 rw[mm]
 generalize as.map PR.out=ws at*
 have nl:=gH hz
 have dl:=mV hm
 have y1:([42,32]++bo m z++[32]).length<=2+19+1:=la (la (TG 2) nl) (TG 1)
 have y2:([42,32]++bI m++[32,70,69,84,67,72]).length<=2+19+6:=la (la (TG 2) dl) (TG 6)
 refine⟨TF rfl,TF rfl,LM (k4 hk) (TF rfl) (bZ ay (fs (k4 hk) (vV (k4 hk) (GK 1 (g:=fun w=>w.free) (fun w=>rfl) hk hal2 j1 (bZ ay (fs (k4 hk) (vV (k4 hk) (GK 2 (g:=fun w=>w.plain) (fun w=>rfl) hk hal2 j2 (fJ ay (gQ (k4 hk) ?_))))))))))⟩
 refine bU hk (id_map hal2 (aQ (fun a:Row=>a.told) rfl hal2 (fun w hw K hK=>ah (a:=0) rfl (TF rfl) hK) ⟨by rw[TN];exact hal2,TF rfl,
  ll (TG 2) nl rfl,ll (la (TG 2) nl) (TG 1) rfl,gC (k4 hk) hI (bs (B:=B) (j:=0) hB rfl) (by decide) (by decide) fun w hw I' hI'=>?_⟩))
 have hwl:=(av (U:=[70,69,84,67,72]) (by decide) hw).2.2
 have row:=DM (as:=ws) hw hm hz fr hal3
 rw[FF,FF,TP ([42,32]++bI m) [32]] at row
 exact⟨ll y1 hwl rfl,Int.le_refl _,ah (a:=0) rfl (TF rfl) ⟨ll (la y1 hwl) (HT j1) rfl,ll (TG 2) dl rfl,ll (la (TG 2) dl) (TG 6) rfl,by decide,ah (a:=1) rfl (TF rfl) ⟨ll y2 (HT j2) rfl,TF rfl,gQ hk (q _ I' row (im (B:=B) (j:=1) hI' rfl))⟩⟩⟩
theorem wq:uL 95:=by
 intro n μ I B Q hk hI hB q
 have tail (m z:Nat) (hm:m<10^19) (hz:z+(dec m).length<=19) (as:List PR) (I':gF) (v5 v6 v7 v8 v9 v10 v11:Option V) (hI':cj (B+9000) I') (ha:∀a∈as,w8 a.out) (hl:as.length<=3):=Bo (n:=n) (μ:=μ) (I0:=I) (m:=m) (z:=z) (as:=as) (v5:=v5) (v6:=v6) (v7:=v7) (v8:=v8) (v9:=v9) (v10:=v10) (v11:=v11) hk hI' (bs (B:=B) (j:=9010) hB rfl) hm hz ha hl (fun w I'' hw hI''=>q w I'' hw (im (B:=B) (j:=9010) hI'' rfl))
 refine u_ ?_
 rw[cn,dZ hk]
 refine eV (k3 hk) hI (bs (B:=B) (j:=5) hB rfl) fun m z I1 hm hz hI1=>⟨TF rfl,dF (l:=[[69,88,73,83,84,83],[69,88,80,85,78,71,69],[70,69,84,67,72],[70,69,84,67,72]].map .str) (k3 hk) hI1 (bs (B:=B) (j:=5) hB rfl) (.inl rfl) nofun (TF rfl) fun y hy I2 hI2=>?_⟩
 have nl:=gH hz
 have dl:=mV hm
 have fet:aA (n+39) (b_.body.drop 2) ⟨[some (.loc 2),some (.int (m:Int)),some (.bytes (bo m z)),some (.bytes (bI m)),some (.str [70,69,84,67,72]),none,none,none,none,none,none,none,none],[μ.length]⟩ (ik (μ++[.cell none]) I2) (aR (ik μ I) Q):=
  ⟨Nat.zero_le _,Px hk (bU hk (Ol hk (cf (m:=4) (k4 hk) hI2 (bs (B:=B) (j:=6) hB rfl) (by decide) (TF rfl) fun c I3 hc hI3=>⟨Int.natCast_nonneg _,Int.ofNat_le.mpr (Ta (Nat.le_of_lt hc) (TF rfl)),
   JQ (n:=n+9) hk (List.range c) [] none none none none none none none (by rw[List.length_range,List.length_nil,Nat.zero_add];exact Nat.le_of_lt_succ hc) nofun hI3 (by rw[List.length_range];exact Ta (Nat.add_le_add_left (Nat.mul_le_mul_right 2000 (Nat.le_of_lt_succ hc)) _) (bs (B:=B) (j:=6007) hB rfl))
    fun as I4 v5 v6 v7 v8 v9 v10 v11 h1 h2 h3=>tail m z hm hz as I4 v5 v6 v7 v8 v9 v10 v11 (h3.mono (by rw[List.length_range];exact Ta (Nat.add_le_add_left (Nat.mul_le_mul_right 2000 (Nat.le_of_lt_succ hc)) _) (Nat.add_le_add_left (by decide:6007<=9000) B))) h2 h1⟩)))⟩
 obtain⟨U,hU,rfl⟩:=List.mem_map.mp hy
 have num (hU2:U∈([[69,88,73,83,84,83],[69,88,80,85,78,71,69]]:List (List Nat))):aA (n+39) (b_.body.drop 2) ⟨[some (.loc 2),some (.int (m:Int)),some (.bytes (bo m z)),some (.bytes (bI m)),some (.str U),none,none,none,none,none,none,none,none],[μ.length]⟩ (ik (μ++[.cell none]) I2) (aR (ik μ I) Q):=by
  have hU3:U≠[70,69,84,67,72]/\U∈D8/\(∀c∈U,c<128)/\U.length<=10:=(by decide:∀U∈([[69,88,73,83,84,83],[69,88,80,85,78,71,69]]:List (List Nat)),U≠[70,69,84,67,72]/\U∈D8/\(∀c∈U,c<128)/\U.length<=10) U hU2
  have z1:([42,32]++bo m z++[32]).length<=2+19+1:=la (la (TG 2) nl) (TG 1)
  have z2:([42,32]++bI m++[32]).length<=2+19+1:=la (la (TG 2) dl) (TG 1)
  have hu:(aa U).length<=10:=aL U▸hU3.2.2.2
  exact ak hU3.1 ⟨hU3.2.2.1,tr hU3.2.2.2 rfl,TF rfl,ll (TG 2) nl rfl,ll (la (TG 2) nl) (TG 1) rfl,gC (k3 hk) hI2 (bs (B:=B) (j:=6) hB rfl) hU3.2.2.1 (tr hU3.2.2.2 rfl) fun w hw I3 hI3=>
   have hwl:=(av hU3.2.1 hw).2.2
   ⟨ll z1 hwl rfl,ll (la z1 hwl) (TG 2) rfl,ll (TG 2) dl rfl,ll (la (TG 2) dl) (TG 1) rfl,az (kh hU3.2.2.1) (tr hU3.2.2.2 rfl) ⟨ll z2 hu rfl,ll (la z2 hu) (TG 2) rfl,TF rfl,gQ hk (q _ I3 (KH hU2 hw hm hz) (im (B:=B) (j:=7) hI3 rfl))⟩⟩⟩
 cases hU with
 |head=>exact num (.head _)
 |tail _ hU=>cases hU with
  |head=>exact num (.tail _ (.head _))
  |tail _ hU=>cases hU with
   |head=>exact fet
   |tail _ hU=>cases hU with
    |head=>exact fet
    |tail _ hU=>cases hU
end
section
noncomputable abbrev fj:List (List Nat×Bool):=[([73,78,66,79,88],true),([97,32,98],false),([],false),([110,105,108],true),([120,47,121,93],true),([40],false)]
noncomputable def rV(p:List Nat×Bool)(t:List UInt8):Prop:=(t=aa p.1/\p.2=true)\/t∈iK (aa p.1)
noncomputable def dW(p:List Nat×Bool):List UInt8:=if p.2=true/\p.1≠[110,105,108]then aa p.1 else lM (aa p.1)
structure mf(p:List Nat×Bool)(t:List UInt8):Prop where
 sp:∀s,(s.head?=some 32\/s.head?=some 13)->oz (aa p.1) t s
 fr:Frag t
 en:aX t
 len:t.length<=210
section
variable{o t:List UInt8}{p:List Nat×Bool}
theorem CP(h:aX o):aX (kd o):=by
 have this:=(aX.ends (123::(bI o.length++[125])) (b:=[13,10]) rfl (by decide)).app h
 rw[TP,List.cons_append,TP] at this
 exact this
theorem G3(h:aX o):aX (AN o):=by
 have this:=(aX.ends (123::(bI o.length++[43,125])) (b:=[13,10]) rfl (by decide)).app h
 rw[TP,List.cons_append,TP] at this
 exact this
theorem Bv(o:List UInt8):aX (yh o):=aX.ends (34::jw o) (b:=[34]) rfl (by decide)
theorem HD(h:aX o)(ht:t∈iK o):aX t:=by
 cases ht with
 |head=>exact CP h
 |tail _ ht=>cases ht with
  |head=>exact G3 h
  |tail _ ht=>
   cases hb:eN sI o with
   |true=>rw[hb] at ht;exact List.eq_of_mem_singleton ht▸Bv o
   |false=>rw[hb] at ht;cases ht
theorem Jc(h:aX o):aX (lM o):=by
 unfold lM
 cases decide ((o.length:Int)<=72)&&eN sZ o with
 |true=>exact Bv o
 |false=>exact CP h
structure xv(p:List Nat×Bool):Prop where
 pl:∀c∈aa p.1,gy c
 en:aX (aa p.1)
 len:(aa p.1).length<=10
 bare:p.2=true->(∀c∈aa p.1,ez c.toNat=true/\c≠13)/\aa p.1≠[]
 EO:codes (aa p.1)=p.1
 ast:mQ (aa p.1)=dW p
 oct:aa p.1∈bY
 lt:∀c∈p.1,c<128
theorem xg(h:p∈fj):xv p:=
 have a:∀p∈fj,(∀c∈aa p.1,isPlain c.toNat=true/\c≠38)/\(aa p.1).getLast?≠some 125/\(aa p.1).length<=10/\(p.2=true->(∀c∈aa p.1,ez c.toNat=true/\c≠13)/\aa p.1≠[])/\codes (aa p.1)=p.1/\mQ (aa p.1)=dW p/\aa p.1∈bY/\(∀c∈p.1,c<128):=by decide+kernel
 have h:=a p h
 ⟨h.1,h.2.1,h.2.2.1,h.2.2.2.1,h.2.2.2.2.1,h.2.2.2.2.2.1,h.2.2.2.2.2.2.1,h.2.2.2.2.2.2.2⟩
theorem E0{s:List UInt8}(hs:s.head?=some 32\/s.head?=some 13):∀c,s.head?=some c->ez c.toNat=false:=by
 intro c hc
 rcases hs with h|h<;>(rw[h] at hc;cases hc;rfl)
theorem yK(h:xv p)(ht:EN (aa p.1) t)(he:aX t):mf p t:=⟨fun s hs=>⟨h.pl,.inl ht.1,tr h.len rfl⟩,ht.2.1,he,ht.2.2⟩
theorem uE(h:xv p)(hb:p.2=true):mf p (aa p.1):=
 have a:=h.bare hb
 ⟨fun s hs=>⟨h.pl,.inr ⟨rfl,⟨fun c hc=>(a.1 c hc).1,E0 hs⟩,a.2⟩,tr h.len rfl⟩,.plain fun c hc=>(a.1 c hc).2,h.en,tr h.len rfl⟩
theorem ly(h:xv p)(ht:rV p t):mf p t:=by
 rcases ht with⟨rfl,hb⟩|ht
 ·exact uE h hb
 ·exact yK h (qr (tr h.len rfl) ht) (HD h.en ht)
theorem jt(h:xv p):mf p (dW p):=by
 unfold dW
 by_cases hb:p.2=true/\p.1≠[110,105,108]
 ·rw[if_pos hb];exact uE h hb.1
 ·rw[if_neg hb];exact yK h (wz (tr h.len rfl)) (Jc h.en)
end
section
variable{ws:List (List Nat)}
theorem oK(h:∀w∈ws,w∈flagWords):Words ws:=fun t ht=>⟨(fb (h t ht)).1,tr (fb (h t ht)).2.1 rfl⟩
theorem mr(r:Nat)(hz:ws.length<=lim):Tells (r+1) (.tuple (ws.map .str)) (.tuple (ws.map .str)):=by
 have this:=Tells.tuple r (ws.map fun w=>(D.str w,D.str w)) (all_map' (P:=fun x:D×D=>Tells r x.1 x.2) fun w hw=>.str r w) (by rw[TN];exact hz)
 rw[List.map_map,List.map_map] at this
 exact this
theorem QA{w:List UInt8}(hw:∀c∈w,c≠13/\c≠125):Frag ([42,32]++w++[32]):=((Frag.plain (by decide)).app (.plain fun c hc=>(hw c hc).1)).app (.plain (by decide))
theorem DL{w:List UInt8}(hw:bS [70,76,65,71,83] w)(h:∀w∈ws,w∈flagWords)(hl:ws.length<=3):
  bk ⟨.tuple [.str [102,108,97,103,115],.tuple (ws.map .str)],[42,32]++w++[32]++ar (ws.map aa)++[13,10],[42,32,70,76,65,71,83,32]++ar (ws.map aa)++[13,10]⟩:=by
 obtain⟨s1,s2,s3⟩:=av (U:=[70,76,65,71,83]) (by decide) hw
 obtain⟨p1,p2,p3⟩:=av (U:=[70,76,65,71,83]) (by decide) (bt _)
 have hz:ws.length<=lim:=tr hl rfl
 have hzm:(ws.map aa).length<=lim:=by rw[TN];exact hz
 have hlen:=d9 h hl
 have r1:=aJ (xW s1 (d8 h) hzm)
 have r2:=aJ (xW p1 (d8 h) hzm)
 rw[kQ,g7 h D.str,<-P1 _ _ _ _ []] at r1 r2
 have wr:=cm (TF rfl) (by decide) (by decide) (by decide) (by decide) (tr (la (TG 6) hlen) rfl) (GX (oK h) hz (tr hlen rfl))
 have fr {w:List UInt8} (hw:∀c∈w,c≠13/\c≠125):Frag ([42,32]++w++[32]++ar (ws.map aa)):=(QA hw).app (jy h)
 exact⟨.tuple [.str [102,108,97,103,115],.tuple (ws.map .str)],2,by decide,bK r1 (fr s2) kS,bK (s:=[42,32,70,76,65,71,83,32]++ar (ws.map aa)) r2 (fr p2) kS,gv (.str _ _) (mr 0 hz),wr,
  tr (la (la (la (la (TG 2) s3) (TG 1)) hlen) (TG 2)) rfl,tr (la (la (TG 8) hlen) (TG 2)) rfl⟩
theorem SF(a b c e d f:List UInt8):a++b++[32]++(c++e)++d++f=a++(b++32::(c++(e++d))++f):=by simp only[TP,List.cons_append,List.nil_append]
theorem SV(a b c e d f:List UInt8):a++(b++[32]++c++e++d++f)=a++b++[32]++(c++e)++d++f:=by simp only[TP,List.cons_append,List.nil_append]
theorem HU{U:List Nat}{w t:List UInt8}{p:List Nat×Bool}(hU:U=[76,73,83,84]\/U=[76,83,85,66])(hw:bS U w)(h:∀w∈ws,w∈flagWords)(hl:ws.length<=3)(hp:p∈fj)(ht:rV p t):
  bk ⟨.tuple [.str (ax U),.tuple (ws.map .str),.str p.1],[42,32]++w++[32]++(ar (ws.map aa)++[32,34,47,34,32])++t++[13,10],[42,32]++aa U++[32]++(ar (ws.map aa)++[32,34,47,34,32])++dW p++[13,10]⟩:=by
 have hUf:U∈D8/\ax U∈([[108,105,115,116],[108,115,117,98]]:List (List Nat))/\aK (ax U)=U/\aK (ax U)∉bX/\ax U≠tX/\(∀c∈ax U,c<128)/\(ax U).length<=20:=by rcases hU with rfl|rfl<;>decide+kernel
 obtain⟨hUk,u1,u2,u3,u4,u5,u6⟩:=hUf
 obtain⟨s1,s2,s3⟩:=av hUk hw
 obtain⟨p1,p2,p3⟩:=av hUk (bt U)
 have hz:ws.length<=lim:=tr hl rfl
 have hzm:(ws.map aa).length<=lim:=by rw[TN];exact hz
 have hlen:=d9 h hl
 have ln:=xg hp
 have n1:=ly ln ht
 have n2:=jt ln
 have r1:=aJ (Bx s1 hU (fun s=>n1.sp _ (.inr rfl)) (d8 h) hzm)
 have r2:=aJ (Bx p1 hU (fun s=>n2.sp _ (.inr rfl)) (d8 h) hzm)
 rw[kQ,g7 h D.str,ln.EO,<-SF] at r1 r2
 have l2:(mQ (aa p.1)).length<=210:=ln.ast▸n2.len
 have wu:=IJ u1 (tr ln.len rfl) ln.pl (oK h) hz (tr hlen rfl) (tr l2 rfl)
 rw[ln.ast,ln.EO,u2] at wu
 have wr:=cm (TF rfl) u3 u4 u5 (tr u6 rfl) (tr (la (la (la (la p3 (TG 1)) hlen) (TG 5)) n2.len) rfl) wu
 rw[SV] at wr
 have fr {w t:List UInt8} (hw:∀c∈w,c≠13/\c≠125) (ht:mf p t):Frag ([42,32]++w++[32]++(ar (ws.map aa)++[32,34,47,34,32])++t):=((QA hw).app ((jy h).app (.plain (by decide)))).app ht.fr
 have en {a t:List UInt8} (ht:mf p t):aX (a++(ar (ws.map aa)++[32,34,47,34,32])++t):=aX.app (by rw[<-TP];exact aX.ends _ (b:=[32,34,47,34,32]) rfl (by decide)) ht.en
 have lz {w t:List UInt8} (hw:w.length<=20) (ht:t.length<=210):([42,32]++w++[32]++(ar (ws.map aa)++[32,34,47,34,32])++t++[13,10]).length<=100000:=tr (la (la (la (la (la (TG 2) hw) (TG 1)) (la hlen (TG 5))) ht) (TG 2)) rfl
 exact⟨.tuple [.str (ax U),.tuple (ws.map .str),.str p.1],2,by decide,bK r1 (fr s2 n1) (en n1),bK r2 (fr p2 n2) (en n2),qI (.str _ _) (mr 0 hz) (.str _ _),wr,lz s3 n1.len,lz p3 n2.len⟩
end
end
section
structure gE where
 one:List Nat
 m:Nat
 z:Nat
 w:List UInt8
noncomputable abbrev cQ:List (List Nat):=[[77,69,83,83,65,71,69,83],[85,73,68,78,69,88,84]]
noncomputable abbrev dy:List (List Nat):=[[67,79,85,78,84],[77,65,88]]
structure Po(U:List Nat)(w:List UInt8):Prop where
 at_:∀c∈w,cx c.toNat=true
 ne:w≠[]
 up:aK (codes w)=U
 al:aK (codes w)≠[65,76,76]
 l3:3<=w.length
 Kp:∀c∈w,c≠13/\c≠125
 len:w.length<=20
 uid:U∈dy->w.take 3≠[85,73,68]
theorem oR{U:List Nat}{w:List UInt8}(hU:U∈cQ++dy)(h:bS U w):Po U w:=by
 have hall:∀U∈cQ++dy,∀w∈[aa U,aa (ax U),aa (U.take 1++ax (U.drop 1))],(∀c∈w,cx c.toNat=true)/\w≠[]/\aK (codes w)=U/\aK (codes w)≠[65,76,76]/\3<=w.length/\(∀c∈w,c≠13/\c≠125)/\w.length<=20/\(U∈dy->w.take 3≠[85,73,68]):=by decide+kernel
 obtain⟨a1,a2,a3,a4,a5,a6,a7,a8⟩:=hall U hU w (h.elim (fun e=>e▸.head _) fun h=>h.elim (fun e=>e▸.tail _ (.head _)) fun e=>e▸.tail _ (.tail _ (.head _)))
 exact⟨a1,a2,a3,a4,a5,a6,a7,a8⟩
noncomputable def xf(a:gE):Prop:=a.one∈cQ/\a.m<10^19/\a.z+(dec a.m).length<=19/\bS a.one a.w
noncomputable def gE.told(a:gE):D:=.tuple [.str a.one,.int (a.m:Int)]
noncomputable def gE.free(a:gE):List UInt8:=a.w++[32]++bo a.m a.z
noncomputable def gE.plain(a:gE):List UInt8:=aa a.one++[32]++bI a.m
section
variable{a:gE}
theorem Gn(h:xf a):dQ a.told a.free:=by
 obtain⟨h1,h2,h3,h4⟩:=h
 have aw:=oR (List.mem_append_left _ h1) h4
 have this:=dQ.mk a.w (bo a.m a.z) aw.at_ aw.ne aw.al (bN _ _) (gA _ _) (gH h3)
 rw[aw.up,fm] at this
 rw[gE.free,TP];exact this
theorem DP(h:xf a):dQ a.told a.plain:=by
 obtain⟨h1,h2,h3,h4⟩:=h
 have aw:=oR (List.mem_append_left _ h1) (bt a.one)
 have this:=dQ.mk (aa a.one) (bI a.m) aw.at_ aw.ne aw.al (bH _) (fe _) (mV h2)
 rw[aw.up,fg] at this
 rw[gE.plain,TP];exact this
theorem nU(h:xf a):Frag a.free/\Frag a.plain/\a.free.length<=50/\a.plain.length<=50:=
 have aw:=oR (List.mem_append_left _ h.1) h.2.2.2
 have aw2:=oR (List.mem_append_left _ h.1) (bt a.one)
 ⟨((Frag.plain fun c hc=>(aw.Kp c hc).1).app (.plain (by decide))).app (.plain (fR (bN _ _))),((Frag.plain fun c hc=>(aw2.Kp c hc).1).app (.plain (by decide))).app (.plain (fR (bH _))),
  tr (la (la aw.len (TG 1)) (gH h.2.2.1)) rfl,tr (la (la aw2.len (TG 1)) (mV h.2.1)) rfl⟩
end
noncomputable abbrev gE.p(a:gE):List Nat×Nat:=(a.one,a.m)
theorem uC(a:gE)(as:List gE):br (bq ((a::as).map gE.p))=32::(a.plain++br (bq (as.map gE.p))):=by
 show 32::(aa a.one++32::(aa (dec a.m)++_))=32::(aa a.one++[32]++bI a.m++_)
 rw[TP,TP];rfl
theorem qD(as:List gE):(br (bq (as.map gE.p))).drop 1=aq [32] (as.map gE.plain):=by
 cases as with
 |nil=>rfl
 |cons a as=>
  rw[uC,List.map_cons,ju]
  refine congrArg (a.plain++·) ?_
  induction as with
  |nil=>rfl
  |cons b as ih=>rw[uC,List.map_cons,List.flatMap_cons,ih];rfl
section
variable{as:List gE}
theorem Td(a b c d f:List UInt8):a++b++[32]++c++([32]++d)++f=a++(b++32::(c++32::d)++f):=by simp only[TP,List.cons_append,List.nil_append]
theorem Tz(a b j f:List UInt8):a++b++[32,40]++j++[41]++f=a++b++([32]++40::(j++[41]))++f:=by simp only[TP,List.cons_append,List.nil_append]
theorem DX(ha:as.length<=lim):Tells 2 (.tuple (as.map gE.told)) (.tuple (as.map gE.told)):=by
 have this:=Tells.tuple 1 (as.map fun a=>(a.told,a.told)) (all_map' (P:=fun x:D×D=>Tells 1 x.1 x.2) fun w hw=>gv (.str 0 _) (.int 0 _)) (by rw[TN];exact ha)
 rw[List.map_map,List.map_map] at this
 exact this
theorem Fs{w t:List UInt8}{p:List Nat×Bool}(hw:bS [83,84,65,84,85,83] w)(hp:p∈fj)(ht:rV p t)(ha:∀a∈as,xf a)(hl:as.length<=3):
  bk ⟨.tuple [.str [115,116,97,116,117,115],.str p.1,.tuple (as.map gE.told)],[42,32]++w++[32]++t++([32]++ar (as.map gE.free))++[13,10],[42,32,83,84,65,84,85,83,32]++dW p++([32]++ar (as.map gE.plain))++[13,10]⟩:=by
 obtain⟨s1,s2,s3⟩:=av (U:=[83,84,65,84,85,83]) (by decide) hw
 obtain⟨p1,p2,p3⟩:=av (U:=[83,84,65,84,85,83]) (by decide) (bt _)
 have hz {β:Type} (f:gE->β):(as.map f).length<=3:=by rw[TN];exact hl
 have ln:=xg hp
 have n1:=ly ln ht
 have n2:=jt ln
 have r1:=aJ (CQ (its:=as.map fun a=>(a.told,a.free)) s1 (fun s=>n1.sp _ (.inl rfl)) (all_map' (P:=fun x:D×List UInt8=>dQ x.1 x.2) fun y hy=>Gn (ha y hy)) (tr (hz _) rfl))
 have r2:=aJ (CQ (its:=as.map fun a=>(a.told,a.plain)) p1 (fun s=>n2.sp _ (.inl rfl)) (all_map' (P:=fun x:D×List UInt8=>dQ x.1 x.2) fun y hy=>DP (ha y hy)) (tr (hz _) rfl))
 rw[gj,ln.EO,List.map_map,List.map_map,<-Td] at r1 r2
 have ff:Frag (ar (as.map gE.free)):=eU (all_map' fun y hy=>(nU (ha y hy)).1)
 have fp:Frag (ar (as.map gE.plain)):=eU (all_map' fun y hy=>(nU (ha y hy)).2.1)
 have lf:(ar (as.map gE.free)).length<=200:=iI (M:=50) (all_map' (P:=fun t:List UInt8=>t.length<=50) fun y hy=>(nU (ha y hy)).2.2.1) (hz _) (by decide)
 have lp:(ar (as.map gE.plain)).length<=200:=iI (M:=50) (all_map' (P:=fun t:List UInt8=>t.length<=50) fun y hy=>(nU (ha y hy)).2.2.2) (hz _) (by decide)
 have lj:(aq [32] (as.map gE.plain)).length<=198:=by rw[iU] at lp;exact Nat.le_of_add_le_add_right lp
 have hwl:(br (bq (as.map gE.p))).length<=199:=by
  have e:=congrArg List.length (qD as)
  rw[List.length_drop] at e
  exact Nat.le_add_of_sub_le (e▸lj)
 have l2:(mQ (aa p.1)).length<=210:=ln.ast▸n2.len
 have hst:∀U∈cQ,(∀c∈U,c<128)/\U.length<=1000:=by decide
 have wu:=Lf (nm:=aa p.1) (P:=as.map gE.p) (tr ln.len rfl) ln.pl (all_map' (P:=fun p:List Nat×Nat=>p.2<10^90/\(∀c∈p.1,c<128)/\p.1.length<=1000) fun y hy=>⟨iB (ha y hy).2.1,hst _ (ha y hy).1⟩) (tr (hz _) rfl) (tr hwl rfl) (tr l2 rfl)
 rw[qD,ln.ast,ln.EO,List.map_map] at wu
 have wr:=cm (TF rfl) (by decide) (by decide) (by decide) (by decide) (tr (la (la (la (la (TG 7) n2.len) (TG 2)) lj) (TG 1)) rfl) wu
 have fr {w t:List UInt8} {X:List (List UInt8)} (hw:∀c∈w,c≠13/\c≠125) (ht:mf p t) (hX:Frag (ar X)):Frag ([42,32]++w++[32]++t++([32]++ar X)):=((QA hw).app ht.fr).app ((Frag.plain (by decide)).app hX)
 have en {a:List UInt8} {X:List (List UInt8)}:aX (a++([32]++ar X)):=by rw[<-TP];exact kS
 refine⟨.tuple [.str [115,116,97,116,117,115],.str p.1,.tuple (as.map gE.told)],3,by decide,bK r1 (fr s2 n1 ff) en,bK (s:=[42,32,83,84,65,84,85,83,32]++dW p++([32]++ar (as.map gE.plain))) r2 (fr p2 n2 fp) en,qI (.str _ _) (.str _ _) (DX (tr hl rfl)),?_,
  tr (la (la (la (la (la (TG 2) s3) (TG 1)) n1.len) (la (TG 1) lf)) (TG 2)) rfl,tr (la (la (la (TG 9) n2.len) (la (TG 1) lp)) (TG 2)) rfl⟩
 rw[Tz] at wr
 exact wr
end
end
section
variable{n:Nat}{μ:Mu}{I I0:gF}{k B:Nat}{Q:KV}{c1 c2 c3:aI}
theorem EK{α:Type}{elt:Ex}{cs:List Nat}(fx fy fz out:α->D)(l:List α):∀(v0 v1 v2 v3:Option V) {Q:KD},
  (∀a∈l,∀(v0:Option V) (K:KV),K (.d (out a)) μ->eE n elt ⟨[v0,some (.d (fx a)),some (.d (fy a)),some (.d (fz a))],cs⟩ μ K)->Q (l.map out) μ->
  wC n elt (.tup [(.lv 1),(.lv 2),(.lv 3)]) [] (l.map fun a=>V.d (.tuple [fx a,fy a,fz a])) none ⟨[v0,v1,v2,v3],cs⟩ μ Q:=by
 induction l with
 |nil=>exact fun v0 v1 v2 v3 Q h q=>fJ ay q
 |cons a l ih=>exact fun v0 v1 v2 v3 Q h q=>bZ ay (h a (.head _) v0 _ (ih (Q:=fun ds=>Q (out a::ds)) _ _ _ _ (fun b hb=>h b (.tail _ hb)) q))
theorem vU{α:Type}{elt:Ex}(fx fy fz out:α->D){l:List α}(hl:l.length<=lim)
  (h:∀a∈l,∀(v0:Option V) (K:KV),K (.d (out a)) μ->eE n elt ⟨[v0,some (.d (fx a)),some (.d (fy a)),some (.d (fz a))],[]⟩ μ K) (q:Q (.d (.list (l.map out))) μ):
  L3 (DO n false elt (.tup [(.lv 1),(.lv 2),(.lv 3)]) [] 4 0 (some []) Q) μ (l.map fun a=>D.tuple [fx a,fy a,fz a]):=by
 refine id_map hl ?_
 rw[List.map_map]
 exact mz (by rw[TN];exact hl) (EK fx fy fz out l none none none none h (ab q))
noncomputable abbrev tZ(U:List Nat)(p:List Nat×Bool)(ws:List (List Nat))(w:List UInt8)(v3 v6 v7:Option V)(pl t:List UInt8)(m:Nat):Fr:=⟨[some (.str U),some (.d (.tuple [.str p.1,.bool p.2])),some (.d (.tuple (ws.map .str))),v3,some (.bytes (ar (ws.map aa))),some (.bytes ([42,32]++w++[32])),v6,v7,some (.bytes pl),some (.bytes t),none,none,none,none],[m]⟩
noncomputable abbrev gE.row(a:gE):D:=.tuple [.str a.one,.tuple [.int (a.m:Int),.bytes (bo a.m a.z),.bytes (bI a.m)],.bytes a.w]
theorem Hx(X:List UInt8)(L:List (List UInt8)):X++([32]++ar L)++[13,10]=X++[32,40]++aq [32] L++[41,13,10]:=by rw[FF,P7,<-TP,<-TP]
theorem w5{w:List UInt8}(h:w.length<=20):([42,32]++w++[32]).length<=2+20+1:=la (la (TG 2) h) (TG 1)
theorem Ip{p:List Nat×Bool}{ws:List (List Nat)}{w t:List UInt8}{v3 v6 v7:Option V}(hk:3<=μ.length)(hI:cj B I)(hB:B+100<=10^80)(hw:bS [83,84,65,84,85,83] w)(hp:p∈fj)(ht:rV p t)(q:∀w I',bk w->cj (B+100) I'->Q (.d w.d) (ik μ I')):
  aA (n+39) (dj.body.drop 8) (tZ [83,84,65,84,85,83] p ws w v3 v6 v7 (dW p) t μ.length) (ik (μ++[.cell (some (.loc 2))]) I) (aR (ik μ I0) Q):=by
 have hk':3<=(μ++[aI.cell (some (V.loc 2))]).length:=k3 hk
 have ln:=xg hp
 have n1:=ly ln ht
 have n2:=jt ln
 have hwl:=w5 (av (U:=[83,84,65,84,85,83]) (by decide) hw).2.2
 have hst:∀o∈cQ,(∀c∈o,c<128)/\o.length<=10:=by decide
 refine⟨TF rfl,fs hk (cf (m:=3) hk' hI (bs (B:=B) (j:=0) hB rfl) (by decide) (TF rfl) fun c I1 hc hI1=>⟨Int.natCast_nonneg _,Nat.le_of_lt_succ hc,TF rfl,?_⟩)⟩
 have hcl:(cQ.take c).length<=2:=List.length_take_le' ..
 show L3 _ _ (List.take c (cQ.map D.str))
 rw[<-List.map_take]
 refine id_map (tr hcl rfl) ?_
 rw[List.map_map]
 have hmul:B+1+(cQ.take c).length*20<=B+100:=Ta (Nat.add_le_add_left (Nat.mul_le_mul_right 20 hcl) (B+1)) (Nat.add_le_add_left (by decide:41<=100) B)
 refine mz (by rw[TN];exact tr hcl rfl) (iT 20 gE.row xf (fun o:List Nat=>V.str o) rfl (cQ.take c) .same hI1 (Ta hmul hB) (fun o ho B2 I2 K hI2 hB2 hK=>?_) (fun as I3 has hA hI3=>lG hk' ?_))
 ·have ho:o∈cQ:=List.mem_of_mem_take ho
  have ho2:=hst o ho
  exact fs hk (eV hk' hI2 (bs (B:=B2) (j:=5) hB2 rfl) fun m z I4 hm hz hI4=>fs hk (gC hk' hI4 (bs (B:=B2) (j:=5) hB2 rfl) ho2.1 (tr ho2.2 rfl) fun w2 hw2 I5 hI5=>⟨TF rfl,hK ⟨o,m,z,w2⟩ I5 ⟨ho,hm,hz,hw2⟩ (im (B:=B2) (j:=6) hI5 rfl)⟩))
 have has:as.length<=2:=has▸hcl
 have hal:as.length<=lim:=tr has rfl
 have jl (f:gE->List UInt8) (h:∀a∈as,(f a).length<=50):(aq [32] (as.map f)).length<=120:=by
  have z:(as.map f).length<=2:=by rw[TN];exact has
  exact Ta (iO [32] (M:=50) (by decide) _ (all_map' (P:=fun t:List UInt8=>t.length<=50) h)) (Nat.mul_le_mul_right 60 z)
 have jf:=jl gE.free fun a h=>(nU (hA a h)).2.2.1
 have jp:=jl gE.plain fun a h=>(nU (hA a h)).2.2.2
 refine vU (fun a:gE=>.str a.one) (fun a=>.tuple [.int (a.m:Int),.bytes (bo a.m a.z),.bytes (bI a.m)]) (fun a=>.bytes a.w) (fun a=>.bytes a.free) hal (fun a ha v0 K hK=>?_) (dA (bP gE.free as) ⟨tr jf rfl,?_⟩)
 ·have aw:=(oR (List.mem_append_left _ (hA a ha).1) (hA a ha).2.2.2).len
  exact⟨ll aw (TG 1) rfl,ah (a:=1) rfl (TF rfl) ⟨ll (la aw (TG 1)) (gH (hA a ha).2.2.1) rfl,hK⟩⟩
 refine vU (fun a:gE=>.str a.one) (fun a=>.tuple [.int (a.m:Int),.bytes (bo a.m a.z),.bytes (bI a.m)]) (fun a=>.bytes a.w) (fun a=>.bytes a.plain) hal (fun a ha v0 K hK=>?_) (dA (bP gE.plain as) ⟨tr jp rfl,?_⟩)
 ·have ho2:=hst _ (hA a ha).1
  have aw:(aa a.one).length<=10:=aL a.one▸ho2.2
  exact az (kh ho2.1) (tr ho2.2 rfl) ⟨ll aw (TG 1) rfl,ah (a:=2) rfl (TF rfl) ⟨ll (la aw (TG 1)) (mV (hA a ha).2.1) rfl,hK⟩⟩
 refine ah (a:=0) rfl (TF rfl) (vU (fun a:gE=>.str a.one) (fun a=>.tuple [.int (a.m:Int),.bytes (bo a.m a.z),.bytes (bI a.m)]) (fun a=>.bytes a.w) (fun a=>a.told) hal (fun a ha v0 K hK=>ah (a:=0) rfl (TF rfl) ⟨TF rfl,hK⟩) ⟨by rw[TN];exact hal,TF rfl,?_⟩)
 have row:=Fs hw hp ht hA (tr has rfl)
 rw[Hx,Hx] at row
 have y1:=la hwl n1.len
 have y2:=la (b:=[32,40]) y1 (TG 2)
 have x1:([42,32,83,84,65,84,85,83,32]++dW p).length<=9+210:=la (TG 9) n2.len
 have x2:=la (b:=[32,40]) x1 (TG 2)
 exact⟨ll hwl n1.len rfl,ll y1 (TG 2) rfl,ll y2 jf rfl,ll (la y2 jf) (TG 3) rfl,ll (TG 9) n2.len rfl,ll x1 (TG 2) rfl,ll x2 jp rfl,ll (la x2 jp) (TG 3) rfl,TF rfl,gQ hk (q _ I3 row (hI3.mono hmul))⟩
theorem yC{U:List Nat}{p:List Nat×Bool}{ws:List (List Nat)}{w t:List UInt8}{v3 v6 v7:Option V}(hk:3<=μ.length)(hI:cj B I)(hU:U=[76,73,83,84]\/U=[76,83,85,66])(hw:bS U w)(hW:∀w∈ws,w∈flagWords)(hws:ws.length<=3)(hp:p∈fj)(ht:rV p t)(q:∀w I',bk w->cj B I'->Q (.d w.d) (ik μ I')):
  aA (n+39) (dj.body.drop 7) (tZ U p ws w v3 v6 v7 (dW p) t μ.length) (ik (μ++[.cell (some (.loc 2))]) I) (aR (ik μ I0) Q):=by
 have hU3:U≠[83,84,65,84,85,83]/\(∀c∈U,c<128)/\U.length<=10/\U∈D8:=by rcases hU with rfl|rfl<;>decide
 have hlen:=d9 hW hws
 have ln:=xg hp
 have n1:=ly ln ht
 have n2:=jt ln
 have hwl:=w5 (av hU3.2.2.2 hw).2.2
 have aw:(aa U).length<=10:=aL U▸hU3.2.2.1
 have z:(ar (ws.map aa)++[32,34,47,34,32]).length<=200+5:=la hlen (TG 5)
 have y1:=la hwl z
 have x0:=la (a:=[42,32]) (TG 2) aw
 have x1:=la x0 (b:=[32]) (TG 1)
 have x2:=la x1 z
 exact ak hU3.1 ⟨ll hlen (TG 5) rfl,hU3.2.1,tr hU3.2.2.1 rfl,ah (a:=0) rfl (TF rfl) ⟨TF rfl,ll hwl z rfl,ll y1 n1.len rfl,ll (la y1 n1.len) (TG 2) rfl,az (kh hU3.2.1) (tr hU3.2.2.1 rfl)
  ⟨ll (TG 2) aw rfl,ll x0 (TG 1) rfl,ll x1 z rfl,ll x2 n2.len rfl,ll (la x2 n2.len) (TG 2) rfl,TF rfl,gQ hk (q _ I (HU hU hw hW hws hp ht) hI)⟩⟩⟩
theorem Gi{U:List Nat}{p:List Nat×Bool}{ws:List (List Nat)}{w t:List UInt8}{v3 v6 v7:Option V}(hk:3<=μ.length)(hI:cj B I)(hB:B+100<=10^80)(hU:U∈([[76,73,83,84],[76,83,85,66],[83,84,65,84,85,83]]:List (List Nat)))(hw:bS U w)(hW:∀w∈ws,w∈flagWords)(hws:ws.length<=3)(hp:p∈fj)(ht:rV p t)(q:∀w I',bk w->cj (B+100) I'->Q (.d w.d) (ik μ I')):
  aA (n+39) (dj.body.drop 7) (tZ U p ws w v3 v6 v7 (dW p) t μ.length) (ik (μ++[.cell (some (.loc 2))]) I) (aR (ik μ I0) Q):=by
 have q':∀w I',bk w->cj B I'->Q (.d w.d) (ik μ I'):=fun w I' h hI'=>q w I' h (hI'.mono (Nat.le_add_right ..))
 cases hU with
 |head=>exact yC hk hI (.inl rfl) hw hW hws hp ht q'
 |tail _ hU=>cases hU with
  |head=>exact yC hk hI (.inr rfl) hw hW hws hp ht q'
  |tail _ hU=>cases hU with
   |head=>exact Ip hk hI hB hw hp ht q
   |tail _ hU=>cases hU
theorem M5{U:List Nat}{p:List Nat×Bool}{ws:List (List Nat)}{w t:List UInt8}{v3 v7:Option V}{ν:Mu}{K:KS}{m:Nat}(q:aA n (dj.body.drop 7) (tZ U p ws w v3 (some (.bytes (aa p.1))) v7 (dW p) t m) ν K):
  aA n (dj.body.drop 6) (tZ U p ws w v3 (some (.bytes (aa p.1))) v7 (lM (aa p.1)) t m) ν K:=by
 obtain⟨nm,bb⟩:=p
 cases bb with
 |false=>
  rw[dW,if_neg (fun h=>nomatch h.1)] at q
  exact ah (a:=1) rfl (TF rfl) q
 |true=>
  by_cases h:nm≠[110,105,108]
  ·rw[dW,if_pos ⟨rfl,h⟩] at q
   exact ah (a:=1) rfl (TF rfl) (ah (a:=0) rfl (TF rfl) (ak h q))
  ·rw[dW,if_neg (fun e=>h e.2)] at q
   exact ah (a:=1) rfl (TF rfl) (ah (a:=0) rfl (TF rfl) (ai h q))
theorem L9{U:List Nat}{p:List Nat×Bool}{ws:List (List Nat)}{w t0 pl:List UInt8}{v3:Option V}{K:KS}(hk:3<=μ.length)(hI:cj B I)(hB:B+1<=10^80)(ht0:t0∈iK (aa p.1))
  (q:∀t I',rV p t->cj (B+1) I'->aA (n+1) (dj.body.drop 6) (tZ U p ws w v3 (some (.bytes (aa p.1))) (some (.bytes t0)) pl t μ.length) (ik (μ++[.cell (some (.loc 2))]) I') K):
  aA (n+1) (dj.body.drop 5) ⟨[some (.str U),some (.d (.tuple [.str p.1,.bool p.2])),some (.d (.tuple (ws.map .str))),v3,some (.bytes (ar (ws.map aa))),some (.bytes ([42,32]++w++[32])),some (.bytes (aa p.1)),some (.bytes t0),some (.bytes pl),none,none,none,none,none],[μ.length]⟩ (ik (μ++[.cell (some (.loc 2))]) I) K:=by
 obtain⟨nm,bb⟩:=p
 cases bb with
 |false=>exact ah (a:=1) rfl (TF rfl) (q _ _ (.inr ht0) (hI.mono (Nat.le_add_right ..)))
 |true=>
  refine ah (a:=1) rfl (TF rfl) (fs hk (cf (m:=2) (k3 hk) hI (Nat.le_of_succ_le hB) (by decide) (TF rfl) fun x I6 hx hI6=>?_))
  by_cases h:(x:Int)=0
  ·exact ak h (q _ _ (.inl ⟨rfl,rfl⟩) hI6)
  ·exact ai h (q _ _ (.inr ht0) hI6)
theorem K1:uL 96:=by
 intro n μ I B Q hk hI hB q
 have hk':3<=(μ++[aI.cell (some (V.loc 2))]).length:=k3 hk
 refine KQ ?_
 rw[cn,dZ hk]
 refine fs hk ⟨TF rfl,dF (l:=[[76,73,83,84],[76,83,85,66],[83,84,65,84,85,83],[70,76,65,71,83]].map .str) hk' hI (bs (B:=B) (j:=0) hB rfl) (.inl rfl) nofun (TF rfl) fun y hy I1 hI1=>?_⟩
 obtain⟨U,hU,rfl⟩:=List.mem_map.mp hy
 refine fs hk (dF (l:=fj.map fun p=>.tuple [.str p.1,.bool p.2]) hk' hI1 (bs (B:=B) (j:=1) hB rfl) (.inl rfl) nofun (TF rfl) fun y hy I2 hI2=>⟨TF rfl,?_⟩)
 obtain⟨p,hp,rfl⟩:=List.mem_map.mp hy
 have ln:=xg hp
 have hU3:(∀c∈U,c<128)/\U.length<=10/\U∈D8:=(by decide:∀U∈([[76,73,83,84],[76,83,85,66],[83,84,65,84,85,83],[70,76,65,71,83]]:List (List Nat)),(∀c∈U,c<128)/\U.length<=10/\U∈D8) U hU
 refine fs hk (oB (B:=B+1+1) hk' hI2 (bs (B:=B) (j:=12) hB rfl) fun ws I3 hws hW hI3=>fs hk (gC hk' hI3 (bs (B:=B) (j:=12) hB rfl) hU3.1 (tr hU3.2.1 rfl) fun w hw I4 hI4=>?_))
 have hlen:=d9 hW hws
 have hwl:=(av hU3.2.2 hw).2.2
 have y:=w5 hwl
 refine⟨ll (TG 2) hwl rfl,ll (la (TG 2) hwl) (TG 1) rfl,?_⟩
 have oth (hU2:U∈([[76,73,83,84],[76,83,85,66],[83,84,65,84,85,83]]:List (List Nat))):aA (n+39) (dj.body.drop 4) ⟨[some (.str U),some (.d (.tuple [.str p.1,.bool p.2])),some (.d (.tuple (ws.map .str))),some (.d (.tuple (ws.map fun w=>.tuple [.str dE,.str w]))),some (.bytes (ar (ws.map aa))),some (.bytes ([42,32]++w++[32])),none,none,none,none,none,none,none,none],[μ.length]⟩ (ik (μ++[.cell (some (.loc 2))]) I4) (aR (ik μ I) Q):=
  fs hk (ah (a:=0) rfl (TF rfl) (az (kh ln.lt) (aL p.1▸tr ln.len rfl) (mh hk' hI4 (bs (B:=B) (j:=14) hB rfl) ln.oct fun t0 ht0 I5 hI5=>
   L9 hk hI5 (bs (B:=B) (j:=15) hB rfl) ht0 fun t I6 ht hI6=>M5 (Gi hk hI6 (bs (B:=B) (j:=115) hB rfl) hU2 hw hW hws hp ht fun w I'' hw hI''=>q w I'' hw (im (B:=B) (j:=115) hI'' rfl)))))
 by_cases hF:U=[70,76,65,71,83]
 ·subst hF
  exact⟨TF rfl,ll y hlen rfl,ll (la y hlen) (TG 2) rfl,ll (TG 8) hlen rfl,ll (la (TG 8) hlen) (TG 2) rfl,TF rfl,gQ hk (q _ I4 (DL hw hW hws) (im (B:=B) (j:=13) hI4 rfl))⟩
 ·refine ai hF (oth ?_)
  cases hU with
  |head=>exact .head _
  |tail _ hU=>cases hU with
   |head=>exact .tail _ (.head _)
   |tail _ hU=>cases hU with
    |head=>exact .tail _ (.tail _ (.head _))
    |tail _ hU=>exact absurd (List.eq_of_mem_singleton hU) hF
end
section
structure Nr where
 m:Nat
 z:Nat
noncomputable def h_(a:Nr):Prop:=a.m<10^19/\a.z+(dec a.m).length<=19
noncomputable def Nr.free(a:Nr):List UInt8:=bo a.m a.z
noncomputable def Nr.plain(a:Nr):List UInt8:=bI a.m
noncomputable abbrev Nr.row(a:Nr):D:=.tuple [.int (a.m:Int),.bytes a.free,.bytes a.plain]
noncomputable abbrev Nr.d(a:Nr):D:=.int (a.m:Int)
noncomputable abbrev rB(t:List UInt8):Prop:=t≠[]/\t.length<=19/\dJ t
theorem jq{a:Nr}(h:h_ a):rB a.free:=⟨gA _ _,gH h.2,bN _ _⟩
theorem dG{a:Nr}(h:h_ a):rB a.plain:=⟨fe _,mV h.1,bH _⟩
noncomputable abbrev safe(t:List UInt8):Prop:=∀c∈t,c≠13/\c≠125
theorem ny{t:List UInt8}(h:dJ t):safe t:=fun c hc=>⟨fun e=>(by have:=h c hc;rw[e] at this;cases this),fun e=>(by have:=h c hc;rw[e] at this;cases this)⟩
theorem aV{a b:List UInt8}(ha:safe a)(hb:safe b):safe (a++b):=fun c hc=>(List.mem_append.mp hc).elim (ha c) (hb c)
theorem lu{as:List (List UInt8)}(h:∀t∈as,rB t):safe (ao as):=by
 induction as with
 |nil=>exact nofun
 |cons a as ih=>exact aV (a:=[32]) (by decide) (aV (ny (h a (.head _)).2.2) (ih fun t ht=>h t (.tail _ ht)))
theorem eY{as:List (List UInt8)}(h:∀t∈as,rB t)(hl:as.length<=3):(ao as).length<=60:=by
 have go:∀as:List (List UInt8),(∀t∈as,rB t)->(ao as).length<=as.length*20:=fun as=>by
  induction as with
  |nil=>exact fun _=>TG _
  |cons a as ih=>
   intro h
   rw[kj,List.length_cons,TM,List.length_cons,Nat.succ_mul,Nat.add_comm a.length,Nat.add_assoc]
   exact Nat.add_le_add (ih fun t ht=>h t (.tail _ ht)) (Nat.succ_le_succ (h a (.head _)).2.1)
 exact Ta (go as h) (Nat.mul_le_mul_right 20 hl)
theorem fQ(as:List Nr):br ((as.map Nr.m).map dec)=ao (as.map Nr.plain):=by rw[br,ao,List.flatMap_map,List.flatMap_map,List.flatMap_map];rfl
theorem f_(as:List Nr)(f:Nr->List UInt8)(hf:∀a,numOf (f a)=a.m):(as.map f).map (fun t=>D.int (numOf t:Nat))=as.map Nr.d:=by
 rw[List.map_map]
 exact List.map_congr_left fun a ha=>congrArg (fun m:Nat=>D.int (m:Int)) (hf a)
theorem rH(as:List Nr)(hz:as.length<=lim):Tells 2 (.tuple (as.map Nr.d)) (.tuple (as.map Nr.d)):=by
 have this:=Tells.tuple 1 (as.map fun a:Nr=>(a.d,a.d)) (all_map' (P:=fun x:D×D=>Tells 1 x.1 x.2) fun y hy=>.int 1 _) (by rw[TN];exact hz)
 rw[List.map_map,List.map_map] at this
 exact this
theorem bO{x:D}{s:List UInt8}(h:Reads x (s++[13,10]))(hs:safe s):Piece x (s++[13,10]):=bK h (.plain fun c hc=>(hs c hc).1) (.of fun c hc=>(hs c hc).2)
theorem yb(a b c f:List UInt8):a++(b++c++f)=a++b++c++f:=by rw[TP,TP,TP]
theorem Pa(a b c d f:List UInt8):a++(b++c++d++f)=a++b++c++d++f:=by simp only[TP]
section
variable{as:List Nr}{w:List UInt8}
noncomputable abbrev Nd:List Nat:=[115,101,97,114,99,104]
noncomputable abbrev vW:List Nat:=[83,69,65,82,67,72]
theorem gG(ha:∀a∈as,h_ a):∀t∈as.map Nr.free,rB t:=all_map' fun a h=>jq (ha a h)
theorem fo(ha:∀a∈as,h_ a):∀t∈as.map Nr.plain,rB t:=all_map' fun a h=>dG (ha a h)
theorem HM(ha:∀a∈as,h_ a):∀m∈as.map Nr.m,m<10^90:=all_map' fun a h=>iB (ha a h).1
theorem rC{b:Nr}{X:List UInt8}(hw:bS vW w)(ha:∀a∈as,h_ a)(hl:as.length<=3)(hb:b.m<10^19)(hX:safe X)(hXl:X.length<=40)(hr:Un (.tuple [.str Nd,.tuple (as.map Nr.d),.int (b.m:Int)]) (w++ao (as.map Nr.free)++X))(hY:safe (lJ b.m))(hYl:(lJ b.m).length<=40)(hp:Un (.tuple [.str Nd,.tuple (as.map Nr.d),.int (b.m:Int)]) (aa vW++ao (as.map Nr.plain)++lJ b.m)):
  bk ⟨.tuple [.str Nd,.tuple (as.map Nr.d),.int (b.m:Int)],[42,32]++w++ao (as.map Nr.free)++X++[13,10],[42,32]++aa vW++ao (as.map Nr.plain)++lJ b.m++[13,10]⟩:=by
 obtain⟨s1,s2,s3⟩:=av (U:=vW) (by decide) hw
 obtain⟨p1,p2,p3⟩:=av (U:=vW) (by decide) (bt _)
 have hz {β:Type} (f:Nr->β):(as.map f).length<=3:=by rw[TN];exact hl
 have lf:=eY (gG ha) (hz _)
 have lp:=eY (fo ha) (hz _)
 have r1:=aJ hr
 have r2:=aJ hp
 rw[Pa] at r1 r2
 have wu:=Ey (M:=as.map Nr.m) (m:=b.m) (HM ha) (tr (hz _) rfl) (fQ as▸tr lp rfl) (iB hb)
 rw[fQ,List.map_map] at wu
 have wr:=cm (TF rfl) (by decide) (by decide) (by decide) (by decide) (tr (la (la (TG 6) lp) hYl) rfl) wu
 rw[Pa] at wr
 have lz {w x y:List UInt8} (hw:w.length<=20) (hx:x.length<=60) (hy:y.length<=40):([42,32]++w++x++y++[13,10]).length<=100000:=tr (la (la (la (la (TG 2) hw) hx) hy) (TG 2)) rfl
 exact⟨_,3,by decide,bO r1 (aV (aV (aV (by decide) s2) (lu (gG ha))) hX),bO r2 (aV (aV (aV (by decide) p2) (lu (fo ha))) hY),qI (.str _ _) (rH as (tr hl rfl)) (.int _ _),wr,lz s3 lf hXl,lz p3 lp hYl⟩
theorem jU(a:Nr):numOf a.free=a.m:=fm _ _
theorem iN(a:Nr):numOf a.plain=a.m:=fg _
theorem Nc{b:Nr}(hb:h_ b):safe (lJ b.m)/\(lJ b.m).length<=40:=by
 unfold lJ
 by_cases h:(b.m:Int)>0
 ·rw[if_pos h];exact⟨aV (aV (by decide) (ny (dG hb).2.2)) (by decide),tr (la (la (TG 9) (mV hb.1)) (TG 1)) rfl⟩
 ·rw[if_neg h];exact⟨nofun,Nat.zero_le _⟩
theorem yj{b:Nr}(ha:∀a∈as,h_ a)(hl:as.length<=3)(hb:h_ b):Un (.tuple [.str Nd,.tuple (as.map Nr.d),.int (b.m:Int)]) (aa vW++ao (as.map Nr.plain)++lJ b.m):=by
 have p1:=(av (U:=vW) (by decide) (bt _)).1
 have hz:(as.map Nr.plain).length<=lim:=by rw[TN];exact tr hl rfl
 by_cases h0:(b.m:Int)>0
 ·have r:=qQ p1 (fo ha) hz (dG hb).2.2 (dG hb).1 (dG hb).2.1
  rw[f_ as _ iN,iN] at r
  rw[lJ,if_pos h0,TP,TP cy]
  exact r
 ·have r:=ra p1 (fo ha) hz
  rw[f_ as _ iN] at r
  have e:(b.m:Int)=0:=Int.le_antisymm (Int.not_lt.mp h0) (Int.natCast_nonneg _)
  rw[lJ,if_neg h0,List.append_nil,e]
  exact r
theorem xj(hw:bS vW w)(ha:∀a∈as,h_ a)(hl:as.length<=3):
  bk ⟨.tuple [.str Nd,.tuple (as.map Nr.d),.int 0],[42,32]++w++ao (as.map Nr.free)++[]++[13,10],[42,32]++aa vW++ao (as.map Nr.plain)++[]++[13,10]⟩:=by
 have hb:h_ ⟨0,0⟩:=by unfold h_;decide
 have hz:(as.map Nr.free).length<=lim:=by rw[TN];exact tr hl rfl
 have r:=ra (av (U:=vW) (by decide) hw).1 (gG ha) hz
 rw[f_ as _ jU,<-List.append_nil (w++_)] at r
 exact rC (b:=⟨0,0⟩) (X:=[]) hw ha hl hb.1 nofun (Nat.zero_le _) r nofun (Nat.zero_le _) (yj ha hl hb)
theorem y_{b:Nr}(hw:bS vW w)(ha:∀a∈as,h_ a)(hl:as.length<=3)(hb:h_ b):
  bk ⟨.tuple [.str Nd,.tuple (as.map Nr.d),.int (b.m:Int)],[42,32]++w++ao (as.map Nr.free)++(cy++b.free++[41])++[13,10],[42,32]++aa vW++ao (as.map Nr.plain)++lJ b.m++[13,10]⟩:=by
 have hz:(as.map Nr.free).length<=lim:=by rw[TN];exact tr hl rfl
 have nf:=jq hb
 have r:=qQ (av (U:=vW) (by decide) hw).1 (gG ha) hz nf.2.2 nf.1 nf.2.1
 rw[f_ as _ jU,jU,<-TP w,<-TP cy] at r
 have s:=Nc hb
 exact rC hw ha hl hb.1 (aV (aV (by decide) (ny nf.2.2)) (by decide)) (tr (la (la (TG 9) nf.2.1) (TG 1)) rfl) r s.1 s.2 (yj ha hl hb)
theorem GA(hw:bS [83,79,82,84] w)(ha:∀a∈as,h_ a)(hl:as.length<=3):
  bk ⟨.tuple [.str [115,111,114,116],.tuple (as.map Nr.d)],[42,32]++w++ao (as.map Nr.free)++[13,10],[42,32]++aa [83,79,82,84]++ao (as.map Nr.plain)++[13,10]⟩:=by
 obtain⟨s1,s2,s3⟩:=av (U:=[83,79,82,84]) (by decide) hw
 obtain⟨p1,p2,p3⟩:=av (U:=[83,79,82,84]) (by decide) (bt _)
 have hz {β:Type} (f:Nr->β):(as.map f).length<=3:=by rw[TN];exact hl
 have lf:=eY (gG ha) (hz _)
 have lp:=eY (fo ha) (hz _)
 have r1:=aJ (CK s1 (gG ha) (tr (hz _) rfl))
 have r2:=aJ (CK p1 (fo ha) (tr (hz _) rfl))
 rw[f_ as _ jU,yb] at r1
 rw[f_ as _ iN,yb] at r2
 have wu:=JP (M:=as.map Nr.m) (HM ha) (tr (hz _) rfl) (fQ as▸tr lp rfl)
 rw[fQ,List.map_map] at wu
 have wr:=cm (TF rfl) (by decide) (by decide) (by decide) (by decide) (tr (la (TG 4) lp) rfl) wu
 rw[yb] at wr
 have lz {w x:List UInt8} (hw:w.length<=20) (hx:x.length<=60):([42,32]++w++x++[13,10]).length<=100000:=tr (la (la (la (TG 2) hw) hx) (TG 2)) rfl
 exact⟨_,3,by decide,bO r1 (aV (aV (by decide) s2) (lu (gG ha))),bO r2 (aV (aV (by decide) p2) (lu (fo ha))),gv (.str _ _) (rH as (tr hl rfl)),wr,lz s3 lf,lz p3 lp⟩
end
end
section
theorem OJ(a w g ts m w2 n f:List UInt8):a++(w++(g++(ts++41::(m++32::(w2++32::n))))++f)=a++w++g++ts++([41]++m++[32])++w2++[32]++n++f:=by simp only[TP,List.cons_append,List.nil_append]
theorem Q3(a w g ts m w2 n f:List UInt8):a++(w++(g++ts++[41])++m++([32]++w2++[32]++n)++f)=a++w++g++ts++([41]++m++[32])++w2++[32]++n++f:=by simp only[TP,List.cons_append,List.nil_append]
section
variable{w:List UInt8}
noncomputable abbrev R5:List Nat:=[101,115,101,97,114,99,104]
noncomputable abbrev CI:List Nat:=[69,83,69,65,82,67,72]
noncomputable abbrev Df:List (List UInt8):=[[97,49],[120,32,121]]
theorem Im(b:Bool):safe (lK b)/\(lK b).length<=4:=by cases b<;>exact⟨by decide,by decide⟩
theorem yp{o ts w2:List UInt8}{b:Bool}{t:List Nat}{a:Nr}(hw:bS CI w)(ho:o∈Df)(hts:ts∈iK o)(ht:t∈dy)(hw2:bS t w2)(ha:h_ a):
  bk ⟨.tuple [.str R5,.str (codes o),.bool b,.tuple [.tuple [.str t,.int (a.m:Int)]]],[42,32]++w++ma++ts++([41]++lK b++[32])++w2++[32]++a.free++[13,10],[42,32]++aa CI++ma++lM o++([41]++lK b++[32])++aa t++[32]++a.plain++[13,10]⟩:=by
 obtain⟨s1,s2,s3⟩:=av (U:=CI) (by decide) hw
 obtain⟨p1,p2,p3⟩:=av (U:=CI) (by decide) (bt _)
 have aw:=oR (List.mem_append_right _ ht) hw2
 have aw2:=oR (List.mem_append_right _ ht) (bt t)
 have nf:=jq ha
 have np:=dG ha
 have hol:o.length<=10/\(∀c∈o,c.toNat<128)/\o≠[]:=(by decide:∀o∈Df,o.length<=10/\(∀c∈o,c.toNat<128)/\o≠[]) o ho
 have f:=qr (tr hol.1 rfl) hts
 have g:=wz (o:=o) (tr hol.1 rfl)
 have r1:=aJ (q_ (b:=b) s1 f.1 (tr hol.1 rfl) aw.at_ aw.ne aw.al aw.l3 (aw.uid ht) nf.2.2 nf.1 nf.2.1)
 have r2:=aJ (q_ (b:=b) p1 g.1 (tr hol.1 rfl) aw2.at_ aw2.ne aw2.al aw2.l3 (aw2.uid ht) np.2.2 np.1 np.2.1)
 rw[aw.up,jU,OJ] at r1
 rw[aw2.up,iN,OJ] at r2
 have ht8:(∀c∈t,c<128)/\t.length<=1000:=(by decide:∀U∈dy,(∀c∈U,c<128)/\U.length<=1000) t ht
 have epw:br (bq [(t,a.m)])=[32]++aa t++[32]++a.plain:=by
  rw[TP,TP]
  exact congrArg (fun l=>32::(aa t++32::l)) (List.append_nil _)
 have zpw:([32]++aa t++[32]++a.plain).length<=1+20+1+19:=la (la (la (TG 1) aw2.len) (TG 1)) np.2.1
 have m:=Im b
 have wu:=An (b:=b) (P:=[(t,a.m)]) hol.2.1 hol.2.2 (tr hol.1 rfl) (gX (P:=fun p:List Nat×Nat=>p.2<10^90/\(∀c∈p.1,c<128)/\p.1.length<=1000) ⟨iB ha.1,ht8⟩) (TF rfl) (epw▸tr zpw rfl) (A2 o▸tr g.2.2 rfl)
 rw[epw,<-A2] at wu
 have wr:=cm (TF rfl) (by decide) (by decide) (by decide) (by decide) (tr (la (la (la (TG 7) (la (la (TG 6) g.2.2) (TG 1))) m.2) zpw) rfl) wu
 rw[Q3] at wr
 have fr {w ts w2 n:List UInt8} (hw:safe w) (hts:Frag ts) (hw2:safe w2) (hn:dJ n):Frag ([42,32]++w++ma++ts++([41]++lK b++[32])++w2++[32]++n):=
  (((((((Frag.plain (by decide)).app (.plain fun c hc=>(hw c hc).1)).app (.plain (by decide))).app hts).app (.plain fun c hc=>(aV (aV (by decide) m.1) (by decide) c hc).1)).app (.plain fun c hc=>(hw2 c hc).1)).app (.plain (by decide))).app (.plain (fR hn))
 have en {a n:List UInt8} (hn:dJ n):aX (a++[32]++n):=(aX.ends _ (b:=[32]) rfl (by decide)).app (.of fun c hc=>(ny hn c hc).2)
 have lz {w ts w2 n:List UInt8} (hw:w.length<=20) (hts:ts.length<=210) (hw2:w2.length<=20) (hn:n.length<=19):([42,32]++w++ma++ts++([41]++lK b++[32])++w2++[32]++n++[13,10]).length<=100000:=
  tr (la (la (la (la (la (la (la (la (TG 2) hw) (TG 6)) hts) (la (la (TG 1) m.2) (TG 1))) hw2) (TG 1)) hn) (TG 2)) rfl
 have t1:Tells 1 (.tuple [.str t,.int (a.m:Int)]) (.tuple [.str t,.int (a.m:Int)]):=gv (.str 0 _) (.int 0 _)
 have t2:=Tells.tuple 1 [(.tuple [.str t,.int (a.m:Int)],.tuple [.str t,.int (a.m:Int)])] (gX (P:=fun x:D×D=>Tells 1 x.1 x.2) t1) (TF rfl)
 exact⟨_,3,by decide,bK r1 (fr s2 f.2.1 aw.Kp nf.2.2) (en nf.2.2),bK r2 (fr p2 g.2.1 aw2.Kp np.2.2) (en np.2.2),Hk (.str _ _) (.str _ _) (.bool _ _) t2,wr,lz s3 f.2.2 aw.len nf.2.1,lz p3 g.2.2 aw2.len np.2.1⟩
noncomputable abbrev Hi:List (List (Nat×Nat)×List Nat):=[([(1,3),(5,5)],[49,58,51,44,53]),([(7,2)],[55,58,50]),([(4,0)],[52,58,42])]
noncomputable abbrev AD(S:List (Nat×Nat)):D:=.tuple (S.map fun p=>.tuple [.int (p.1:Int),.int (p.2:Int)])
theorem E8{x:List (Nat×Nat)×List Nat}(h:x∈Hi)(m:Nat)(μ:Mu)(K:KV)(hK:K (.d (AD x.1)) μ):ae (m+2) 10 [.str x.2] μ K:=by
 cases h with
 |head=>exact Hu (x:=1) (y:=3) (z:=5) (by decide) (by decide) (by decide) hK
 |tail _ h=>cases h with
  |head=>exact NA (x:=7) (y:=2) (by decide) (by decide) hK
  |tail _ h=>cases h with
   |head=>exact Kj (x:=4) (by decide) hK
   |tail _ h=>cases h
noncomputable def ahead(b:Bool):List Nat:=cond b [32,40,69,65,82,76,73,69,82,41,32] [32]
theorem r4(b:Bool)(T:List Nat):aa (ahead b++T)=32::(lP b++aa T):=by rw[cM];cases b<;>rfl
theorem KN{x:List (Nat×Nat)×List Nat}{b:Bool}(hw:bS lH w)(h:x∈Hi):
  bk ⟨.tuple [.str GB,AD x.1,.bool b],[42,32]++w++aa (ahead b++x.2)++[13,10],[42,32]++aa lH++aa (ahead b++x.2)++[13,10]⟩:=by
 obtain⟨s1,s2,s3⟩:=av (U:=lH) (by decide) hw
 obtain⟨p1,p2,p3⟩:=av (U:=lH) (by decide) (bt _)
 have hall:∀x∈Hi,(∀c∈aa x.2,l_ c.toNat=true)/\aa x.2≠[]/\(∀c∈aa x.2,c.toNat<128)/\(aa x.2).head?≠some 40/\codes (aa x.2)=x.2/\fW x.1=x.2/\(∀p∈x.1,p.1<10^90/\p.2<10^90)/\x.1.length<=5/\(aa x.2).length<=5/\(∀c∈x.2,c<128)/\(∀c∈aa x.2,c≠13/\c≠125):=by decide+kernel
 obtain⟨a1,a2,a3,a4,a5,a6,a7,a8,a9,a10,a11⟩:=hall x h
 have hx:=E8 h
 rw[<-a5] at hx
 have r1:=aJ (oN (b:=b) (t:=aa x.2) (x:=AD x.1) s1 a1 a2 a3 a4 hx)
 have r2:=aJ (oN (b:=b) (t:=aa x.2) (x:=AD x.1) p1 a1 a2 a3 a4 hx)
 rw[<-r4,yb] at r1 r2
 have e5:x.2.length<=5:=aL x.2▸a9
 have wu:=Nn (S:=x.1) (b:=b) a7 (tr a8 rfl) (by rw[a6];exact tr e5 rfl) (by rw[a6];exact a10)
 rw[a6] at wu
 have hel:(lP b).length<=10:=by cases b<;>decide
 have wr:=cm (TF rfl) (by decide) (by decide) (by decide) (by decide) (tr (la (la (TG 9) hel) a9) rfl) wu
 have hA:safe (aa (ahead b++x.2)):=by
  rw[cM]
  refine aV ?_ a11
  cases b<;>decide
 have hAl:(aa (ahead b++x.2)).length<=30:=by rw[r4];exact tr (Nat.succ_le_succ (la hel a9)) rfl
 have lz {w:List UInt8} (hw:w.length<=20):([42,32]++w++aa (ahead b++x.2)++[13,10]).length<=100000:=tr (la (la (la (TG 2) hw) hAl) (TG 2)) rfl
 have t2:=Tells.tuple 1 (x.1.map fun p=>(D.tuple [.int (p.1:Int),.int (p.2:Int)],D.tuple [.int (p.1:Int),.int (p.2:Int)])) (all_map' (P:=fun x:D×D=>Tells 1 x.1 x.2) fun p hp=>gv (.int 0 _) (.int 0 _)) (by rw[TN];exact tr a8 rfl)
 rw[List.map_map,List.map_map] at t2
 refine⟨.tuple [.str GB,AD x.1,.bool b],3,by decide,bO r1 (aV (aV (by decide) s2) hA),bO r2 (aV (aV (by decide) p2) hA),qI (.str _ _) t2 (.bool _ _),?_,lz s3,lz p3⟩
 show mD _ ([42,32]++aa lH++aa (ahead b++x.2)++[13,10])
 rw[r4]
 exact wr
noncomputable abbrev uN:List Nat:=[84,72,82,69,65,68]
noncomputable abbrev OU:List Nat:=[116,104,114,101,97,100]
noncomputable abbrev Jt:List (List Nat):=[[],[32,40,50,41,40,51,32,54,32,40,52,32,50,51,41,40,52,52,32,55,41,41]]
theorem AJ{T:List Nat}(hw:bS uN w)(h:T∈Jt):
  bk ⟨.tuple [.str OU,.bytes (aa (T.drop 1))],[42,32]++w++aa T++[13,10],[42,32]++aa uN++aa T++[13,10]⟩:=by
 obtain⟨s1,s2,s3⟩:=av (U:=uN) (by decide) hw
 obtain⟨p1,p2,p3⟩:=av (U:=uN) (by decide) (bt _)
 have a2:∀T∈Jt,(aa T).length<=30/\(∀c∈aa T,c≠13/\c≠125)/\(aa (T.drop 1)).length<=30/\J0 (aa (T.drop 1))=aa T:=by decide+kernel
 have a:=a2 T h
 have un {w:List UInt8} (s:vy w uN):Un (.tuple [.str OU,.bytes (aa (T.drop 1))]) (w++aa T):=by
  cases h with
  |head=>exact(List.append_nil w).symm▸z7 s
  |tail _ h=>cases h with
   |head=>exact zQ s (by decide)
   |tail _ h=>cases h
 have r1:=aJ (un s1)
 have r2:=aJ (un p1)
 rw[yb] at r1 r2
 have wu:=DG (o:=aa (T.drop 1)) (tr a.2.2.1 rfl)
 rw[a.2.2.2] at wu
 have wr:=cm (TF rfl) (by decide) (by decide) (by decide) (by decide) (tr (la (TG 6) a.1) rfl) wu
 rw[yb] at wr
 have lz {w:List UInt8} (hw:w.length<=20):([42,32]++w++aa T++[13,10]).length<=100000:=tr (la (la (la (TG 2) hw) a.1) (TG 2)) rfl
 exact⟨_,2,by decide,bO r1 (aV (aV (by decide) s2) a.2.1),bO r2 (aV (aV (by decide) p2) a.2.1),gv (.str _ _) (.bytes _ _),wr,lz s3,lz p3⟩
noncomputable abbrev xq:List Nat:=[67,65,80,65,66,73,76,73,84,89]
noncomputable abbrev Na:List Nat:=[99,97,112,97,98,105,108,105,116,121]
noncomputable abbrev z5:List (List Nat):=[[73,68,76,69],[116,104,114,101,97,100,61,120],[76,73,84,69,82,65,76,43]]
noncomputable def qT(L:List (List Nat)):List Nat:=aq [] (L.map fun o=>[32]++o)
noncomputable abbrev Iu:List (List (List Nat)):=[[],z5.take 1,z5.take 2,z5]
theorem KP{L:List (List Nat)}(hw:bS xq w)(hk:L∈Iu):
  bk ⟨.tuple [.str Na,.tuple (L.map .str)],[42,32]++w++aa (qT L)++[13,10],[42,32]++aa xq++aa (qT L)++[13,10]⟩:=by
 obtain⟨s1,s2,s3⟩:=av (U:=xq) (by decide) hw
 obtain⟨p1,p2,p3⟩:=av (U:=xq) (by decide) (bt _)
 have hall:∀L∈Iu,(∀t∈L.map aa,t≠[]/\∀c∈t,bc c.toNat=true)/\aa (qT L)=ao (L.map aa)/\br L=ao (L.map aa)/\(∀c∈ao (L.map aa),c≠13/\c≠125)/\(ao (L.map aa)).length<=40/\L.length<=3/\(∀t∈L,(∀c∈t,c<128)/\t.length<=1000)/\(L.map fun t=>codes (aa t))=L:=by decide+kernel
 obtain⟨a1,a2,a3,a4,a5,a6,a7,a8⟩:=hall _ hk
 have hz:L.length<=lim:=tr a6 rfl
 have hzm:(L.map aa).length<=lim:=by rw[TN];exact hz
 have r1:=aJ (lO s1 a1 hzm)
 have r2:=aJ (lO p1 a1 hzm)
 have e8:(L.map aa).map (fun t=>D.str (codes t))=L.map .str:=by
  have:=congrArg (List.map D.str) a8
  rw[List.map_map] at this⊢
  exact this
 rw[e8,yb] at r1 r2
 have wu:=J_ (K:=Na) (L:=L) (.head _) a7 hz (by rw[a3];exact tr a5 rfl)
 rw[a3] at wu
 have wr:=cm (TF rfl) (by decide) (by decide) (by decide) (by decide) (tr (la (TG 10) a5) rfl) wu
 rw[yb] at wr
 rw[a2]
 have lz {w:List UInt8} (hw:w.length<=20):([42,32]++w++ao (L.map aa)++[13,10]).length<=100000:=tr (la (la (la (TG 2) hw) a5) (TG 2)) rfl
 exact⟨.tuple [.str Na,.tuple (L.map .str)],3,by decide,bO r1 (aV (aV (by decide) s2) a4),bO r2 (aV (aV (by decide) p2) a4),gv (.str _ _) (mr 1 hz),wr,lz s3,lz p3⟩
end
end
section
noncomputable abbrev N4:List Nat:=[83,79,82,84]
section
variable{n:Nat}{μ:Mu}{I I0:gF}{k B:Nat}{Q:KV}{c1 c2 c3:aI}
noncomputable abbrev L1:List (List Nat):=[vW,N4,CI,lH,xq,uN]
noncomputable abbrev jM(U:List Nat)(w:List UInt8)(v3 v4 v5 v6 v8:Option V)(m:Nat):Fr:=⟨[some (.str U),some (.bytes ([42,32]++w)),some (.bytes ([42,32]++aa U)),v3,v4,v5,v6,none,v8,none,none,none,none,none,none,none,none,none],[m,m+1]⟩
noncomputable abbrev rW(μ:Mu):Mu:=μ++[.cell (some (.loc 2)),.cell none]
noncomputable abbrev zv(μ:Mu)(m:Nat):Mu:=μ++[.cell (some (.loc 2)),.cell (some (.int (m:Int)))]
noncomputable abbrev E4:St:=aY.at 2
noncomputable abbrev fK(n:Nat)(μ:Mu)(I0:gF)(Q:KV):KS:=Az (aA (n+39) (aY.body.drop 3)) (aR (ik μ I0) Q)
theorem PN{as:List Nr}{f:Nr->List UInt8}(hl:(ao (as.map f)).length<=60)(q:Q (.bytes (ao (as.map f))) μ):on (me (as.map fun a=>D.bytes ([32]++f a))) fun r=>(aq [] r).length<=lim/\Q (.bytes (aq [] r)) μ:=by
 have e:aq [] (as.map fun a=>[32]++f a)=ao (as.map f):=by rw[nY,ao,List.flatMap_map,List.flatMap_def];rfl
 exact dA (bP (fun a=>[32]++f a) as) (by rw[e];exact⟨tr hl rfl,q⟩)
theorem zP{U:List Nat}{w:List UInt8}{as:List Nr}{v4 v5:Option V}{told:D}{t0 t1:List UInt8}{c2:aI}(hk:3<=μ.length)(hw:w.length<=20)(hU:(aa U).length<=20)(hA:∀a∈as,h_ a)(hl:as.length<=3)(z0:t0.length<=100)(z1:t1.length<=100)
  (q:Q (.d (.tuple [told,.bytes ([42,32]++w++ao (as.map Nr.free)++t0),.bytes ([42,32]++aa U++ao (as.map Nr.plain)++t1)])) (ik μ I)):
  aA (n+39) (E4.wb.drop 4) (jM U w (some (.d (.list (as.map Nr.row)))) v4 v5 (some (.d told)) (some (.d (.list [.bytes t0,.bytes t1]))) μ.length) (ik (μ++[c1,c2]) I) (fK n μ I0 Q):=by
 have hal:as.length<=lim:=tr hl rfl
 have hz {β:Type} (f:Nr->β):(as.map f).length<=3:=by rw[TN];exact hl
 have lf:=eY (gG hA) (hz _)
 have lp:=eY (fo hA) (hz _)
 have y0:([42,32]++w).length<=2+20:=la (TG 2) hw
 have y1:([42,32]++aa U).length<=2+20:=la (TG 2) hU
 exact id_map hal (aQ (fun a:Nr=>D.bytes ([32]++a.free)) rfl hal (fun a ha K hK=>ah (a:=1) rfl (TF rfl) ⟨ll (TG 1) (jq (hA a ha)).2.1 rfl,hK⟩) (PN lf ⟨ll y0 lf rfl,Int.le_refl _,ah (a:=0) rfl (TF rfl) ⟨ll (la y0 lf) z0 rfl,
  id_map hal (aQ (fun a:Nr=>D.bytes ([32]++a.plain)) rfl hal (fun a ha K hK=>ah (a:=2) rfl (TF rfl) ⟨ll (TG 1) (dG (hA a ha)).2.1 rfl,hK⟩) (PN lp ⟨ll y1 lp rfl,by decide,ah (a:=1) rfl (TF rfl) ⟨ll (la y1 lp) z1 rfl,TF rfl,gQ hk q⟩⟩))⟩⟩))
noncomputable abbrev Dr(f:List UInt8):List UInt8:=cy++f++[41,13,10]
theorem Cn{U:List Nat}{w:List UInt8}{v3 v6:Option V}{m:Nat}{K:KS}(q:aA (n+39) (E4.wb.drop 4) (jM U w v3 (some (.bytes [])) (some (.bytes [])) v6 (some (.d (.list [.bytes [13,10],.bytes [13,10]]))) μ.length) (ik (zv μ m) I) K):
  aA (n+39) (E4.wb.drop 3) (jM U w v3 (some (.bytes [])) (some (.bytes [])) v6 none μ.length) (ik (zv μ m) I) K:=
 ⟨TF rfl,mz (TF rfl) (bZ ay (bZ ay (fJ ay (ab q))))⟩
theorem JN{U:List Nat}{w f4 f5 t1:List UInt8}{v3 v6:Option V}{m:Nat}{K:KS}(hk:3<=μ.length)(h4:rB f4)(h5:rB f5)(ht:t1=if(m:Int)>0 then Dr f5 else[13,10])(q:aA (n+39) (E4.wb.drop 4) (jM U w v3 (some (.bytes f4)) (some (.bytes f5)) v6 (some (.d (.list [.bytes (Dr f4),.bytes t1]))) μ.length) (ik (zv μ m) I) K):
  aA (n+39) (E4.wb.drop 3) (jM U w v3 (some (.bytes f4)) (some (.bytes f5)) v6 none μ.length) (ik (zv μ m) I) K:=by
 have z {f:List UInt8} (h:rB f):=ll (a:=cy) (TG 9) h.2.1 rfl
 have z2 {f:List UInt8} (h:rB f):(cy++f).length+([41,13,10]:List UInt8).length<=lim:=ll (la (TG 9) h.2.1) (TG 3) rfl
 by_cases hm:(m:Int)>0
 ·rw[if_pos hm] at ht
  subst ht
  exact⟨TF rfl,mz (TF rfl) (bZ ay (ak h4.1 (jL hk (ak hm ⟨z h4,z2 h4,bZ ay (ak h5.1 (jL hk (ak hm ⟨z h5,z2 h5,fJ ay (ab q)⟩)))⟩))))⟩
 ·rw[if_neg hm] at ht
  subst ht
  exact⟨TF rfl,mz (TF rfl) (bZ ay (ak h4.1 (jL hk (ai hm ⟨z h4,z2 h4,bZ ay (ak h5.1 (jL hk (ai hm (fJ ay (ab q)))))⟩))))⟩
theorem mq(X f:List UInt8):X++(cy++f++[41])++[13,10]=X++Dr f:=by rw[TP X,TP (cy++f)];rfl
theorem KJ(X:List UInt8)(b:Nr):X++lJ b.m++[13,10]=X++(if(b.m:Int)>0 then Dr b.plain else[13,10]):=by
 unfold lJ
 by_cases h:(b.m:Int)>0
 ·rw[if_pos h,if_pos h];exact mq X b.plain
 ·rw[if_neg h,if_neg h,List.append_nil]
section
variable{w:List UInt8}{as:List Nr}
theorem CG{m:Nat}{f4 f5:List UInt8}{K:KS}(hk:3<=μ.length)(hl:as.length<=3)(q:aA (n+39) (E4.wb.drop 3) (jM vW w (some (.d (.list (as.map Nr.row)))) (some (.bytes f4)) (some (.bytes f5)) (some (.d (.tuple [.str Nd,.tuple (as.map Nr.d),.int (m:Int)]))) none μ.length) (ik (zv μ m) I) K):
  aA (n+39) (E4.wb.drop 2) (jM vW w (some (.d (.list (as.map Nr.row)))) (some (.bytes f4)) (some (.bytes f5)) none none μ.length) (ik (zv μ m) I) K:=by
 have hal:as.length<=lim:=tr hl rfl
 exact⟨by decide,by decide,id_map hal (aQ Nr.d rfl hal (fun a ha K hK=>ah (a:=0) rfl (TF rfl) hK) ⟨by rw[TN];exact hal,TF rfl,jL hk ⟨TF rfl,TF rfl,q⟩⟩)⟩
theorem FR{m:Nat}{f4 f5:List UInt8}{K:KS}(hl:as.length<=3)(q:aA (n+39) (E4.wb.drop 3) (jM N4 w (some (.d (.list (as.map Nr.row)))) (some (.bytes f4)) (some (.bytes f5)) (some (.d (.tuple [.str [115,111,114,116],.tuple (as.map Nr.d)]))) none μ.length) (ik (zv μ m) I) K):
  aA (n+39) (E4.wb.drop 2) (jM N4 w (some (.d (.list (as.map Nr.row)))) (some (.bytes f4)) (some (.bytes f5)) none none μ.length) (ik (zv μ m) I) K:=by
 have hal:as.length<=lim:=tr hl rfl
 exact⟨by decide,by decide,id_map hal (aQ Nr.d rfl hal (fun a ha K hK=>ah (a:=0) rfl (TF rfl) hK) ⟨by rw[TN];exact hal,TF rfl,Nat.zero_le _,TF rfl,q⟩)⟩
theorem CW{U:List Nat}{K:KS}(hk:3<=μ.length)(hI:cj (B+10) I)(hB:B+10000<=10^80)(q:∀(as:List Nr) I',as.length<=3->(∀a∈as,h_ a)->cj (B+100) I'->aA (n+39) (E4.wb.drop 1) (jM U w (some (.d (.list (as.map Nr.row)))) none none none none μ.length) (ik (rW μ) I') K):
  aA (n+39) E4.wb (jM U w none none none none none μ.length) (ik (rW μ) I) K:=by
 refine bU hk (cf (m:=4) (k4 hk) hI (bs (B:=B) (j:=10) hB rfl) (by decide) (TF rfl) fun c I1 hc hI1=>⟨Int.natCast_nonneg _,Int.ofNat_le.mpr (Ta (Nat.le_of_lt hc) (TF rfl)),?_⟩)
 have hm:(List.range c).length<=3:=by rw[List.length_range];exact Nat.le_of_lt_succ hc
 have hcm:B+10+1+(List.range c).length*5<=B+100:=Ta (Nat.add_le_add_left (Nat.mul_le_mul_right 5 hm) (B+10+1)) (Nat.add_le_add_left (by decide:26<=100) B)
 exact mz (by rw[TN];exact tr hm rfl) (iT 5 Nr.row h_ (fun i:Nat=>V.int (i:Int)) rfl (List.range c) .same hI1 (Ta hcm (bs (B:=B) (j:=100) hB rfl)) (fun z hz B2 I2 K hI2 hB2 hK=>bU hk (eV (k4 hk) hI2 hB2 fun m z I4 hm hz hI4=>hK ⟨m,z⟩ I4 ⟨hm,hz⟩ hI4)) (fun as I3 hws hA hI3=>lG (k4 hk) (q as I3 (hws▸hm) hA (hI3.mono hcm))))
theorem uW(hk:3<=μ.length)(hI:cj (B+10) I)(hB:B+10000<=10^80)(hw:bS vW w)(q:∀w I',bk w->cj (B+10000) I'->Q (.d w.d) (ik μ I')):
  aA (n+39) (aY.body.drop 2) (jM vW w none none none none none μ.length) (ik (rW μ) I) (aR (ik μ I0) Q):=by
 have hwl:=(av (U:=vW) (by decide) hw).2.2
 refine⟨TF rfl,CW hk hI hB fun as I3 hl hA hI3=>bU hk (cf (m:=2) (k4 hk) hI3 (bs (B:=B) (j:=100) hB rfl) (by decide) (TF rfl) fun x I4 hx hI4=>?_)⟩
 by_cases h:(x:Int)=0
 ·refine ak h (bU hk (eV (k4 hk) hI4 (bs (B:=B) (j:=106) hB rfl) fun m z I5 hm hz hI5=>jL hk (D_ hk ?_)))
  have hb:h_ ⟨m,z⟩:=⟨hm,hz⟩
  have row:=y_ (b:=⟨m,z⟩) hw hA hl hb
  rw[mq,KJ] at row
  have z1:(Dr (bo m z)).length<=100:=tr (la (la (TG 9) (jq hb).2.1) (TG 3)) rfl
  have z2:(if(m:Int)>0 then Dr (bI m)else[13,10]).length<=100:=by
   by_cases h0:(m:Int)>0
   ·rw[if_pos h0];exact tr (la (la (TG 9) (dG hb).2.1) (TG 3)) rfl
   ·rw[if_neg h0];exact TF rfl
  exact CG hk hl (JN hk (jq hb) (dG hb) rfl (zP hk hwl (TF rfl) hA hl z1 z2 (q _ I5 row (im (B:=B) (j:=106) hI5 rfl))))
 ·refine ai h ⟨TF rfl,jL hk (D_ hk (CG (m:=0) hk hl (Cn (zP hk hwl (TF rfl) hA hl (TF rfl) (TF rfl) ?_))))⟩
  have row:=xj hw hA hl
  rw[List.append_nil,List.append_nil] at row
  exact q _ I4 row (im (B:=B) (j:=101) hI4 rfl)
theorem A4(hk:3<=μ.length)(hI:cj (B+10) I)(hB:B+10000<=10^80)(hw:bS N4 w)(q:∀w I',bk w->cj (B+10000) I'->Q (.d w.d) (ik μ I')):
  aA (n+39) (aY.body.drop 2) (jM N4 w none none none none none μ.length) (ik (rW μ) I) (aR (ik μ I0) Q):=
 have hwl:=(av (U:=N4) (by decide) hw).2.2
 ⟨TF rfl,CW hk hI hB fun as I3 hl hA hI3=>⟨TF rfl,jL hk (D_ hk (FR (m:=0) hl (Cn (zP hk hwl (TF rfl) hA hl (TF rfl) (TF rfl) (q _ I3 (GA hw hA hl) (im (B:=B) (j:=100) hI3 rfl))))))⟩⟩
end
end
end
section
variable{n:Nat}{μ:Mu}{I I0:gF}{k B:Nat}{Q:KV}{c2:aI}{w:List UInt8}
noncomputable abbrev Sf:St:=aY.at 3
noncomputable abbrev Qp(w:List UInt8)(o ts:List UInt8)(t:List Nat)(a:Nr)(v13:List UInt8)(m:Nat):Fr:=⟨[some (.str CI),some (.bytes ([42,32]++w)),some (.bytes ([42,32]++aa CI)),none,some (.bytes a.free),some (.bytes a.plain),none,some (.bytes ts),none,some (.int (a.m:Int)),some (.bytes o),some (.bytes (lM o)),some (.str t),some (.bytes v13),none,none,none,none],[m,m+1]⟩
theorem Kw{o ts:List UInt8}{t:List Nat}{a:Nr}(b:Bool)(hk:3<=μ.length)(hI:cj B I)(hB:B+1<=10^80)(hw:bS CI w)(ho:o∈Df)(hts:ts∈iK o)(ht:t∈dy)(ha:h_ a)(q:∀w I',bk w->cj (B+1) I'->Q (.d w.d) (ik μ I')):
  aA (n+39) (Sf.wb.drop 4) (Qp w o ts t a (lK b) μ.length) (ik (μ++[.cell (some (.loc 2)),c2]) I) (Az (aA (n+39) (aY.body.drop 4)) (aR (ik μ I0) Q)):=by
 have hwl:=(av (U:=CI) (by decide) hw).2.2
 have hol:o.length<=10:=(by decide:∀o∈Df,o.length<=10) o ho
 have f:=(qr (tr hol rfl) hts).2.2
 have g:=(wz (o:=o) (tr hol rfl)).2.2
 have ht2:(∀c∈t,c<128)/\t.length<=10:=(by decide:∀o∈dy,(∀c∈o,c<128)/\o.length<=10) t ht
 have to:(aa t).length<=10:=aL t▸ht2.2
 have m:=(Im b).2
 have nf:=(jq ha).2.1
 have np:=(dG ha).2.1
 have u0:([41]++lK b).length<=1+4:=la (TG 1) m
 have u1:([41]++lK b++[32]).length<=1+4+1:=la u0 (TG 1)
 have x0:([42,32]++w).length<=2+20:=la (TG 2) hwl
 have x1:=la (b:=ma) x0 (TG 6)
 have x2:=la x1 f
 have x3:=la x2 u1
 have y0:([42,32]++aa CI).length<=2+7:=TG 9
 have y1:=la (b:=ma) y0 (TG 6)
 have y2:=la y1 g
 have y3:=la y2 u1
 have y4:=la y3 to
 have y5:=la (b:=[32]) y4 (TG 1)
 have row (w2:List UInt8) (hw2:bS t w2):=yp (b:=b) hw ho hts ht hw2 ha
 have go:∀b':Bool,b'=b->aA (n+39) (Sf.wb.drop 5) ⟨[some (.str CI),some (.bytes ([42,32]++w)),some (.bytes ([42,32]++aa CI)),none,some (.bytes a.free),some (.bytes a.plain),some (.d (.tuple [.str R5,.str (codes o),.bool b',.tuple [.tuple [.str t,.int (a.m:Int)]]])),some (.bytes ts),none,some (.int (a.m:Int)),some (.bytes o),some (.bytes (lM o)),some (.str t),some (.bytes (lK b)),none,none,none,none],[μ.length,μ.length+1]⟩ (ik (μ++[.cell (some (.loc 2)),c2]) I) (Az (aA (n+39) (aY.body.drop 4)) (aR (ik μ I0) Q)):=by
  rintro b' rfl
  refine⟨ll (TG 1) m rfl,ll u0 (TG 1) rfl,ll x0 (TG 6) rfl,ll x1 f rfl,ll x2 u1 rfl,bU hk (gC (k4 hk) hI (Nat.le_of_succ_le hB) ht2.1 (tr ht2.2 rfl) fun w2 hw2 I6 hI6=>?_)⟩
  have awl:=(oR (List.mem_append_right _ ht) hw2).len
  have x4:=la x3 awl
  have x5:=la (b:=[32]) x4 (TG 1)
  exact⟨ll x3 awl rfl,ll x4 (TG 1) rfl,ll x5 nf rfl,ll (la x5 nf) (TG 2) rfl,ll y0 (TG 6) rfl,ll y1 g rfl,ll y2 u1 rfl,az (kh ht2.1) (tr ht2.2 rfl) ⟨ll y3 to rfl,ll y4 (TG 1) rfl,ll y5 np rfl,ll (la y5 np) (TG 2) rfl,TF rfl,gQ hk (q _ I6 (row w2 hw2) hI6)⟩⟩
 have hol1:o.length<=lim:=tr hol rfl
 refine id_map hol1 (aQ (fun c:UInt8=>D.str [c.toNat]) rfl hol1 (fun c hc K hK=>oF (Nat.lt_trans (u8 c) (TF rfl)) hK) (j8 hol1 ⟨TF rfl,TF rfl,TF rfl,go _ ?_⟩))
 cases b<;>rfl
theorem s9(hk:3<=μ.length)(hI:cj (B+10) I)(hB:B+10000<=10^80)(hw:bS CI w)(q:∀w I',bk w->cj (B+10000) I'->Q (.d w.d) (ik μ I')):
  aA (n+39) (aY.body.drop 3) (jM CI w none none none none none μ.length) (ik (rW μ) I) (aR (ik μ I0) Q):=by
 refine bU hk (eV (k4 hk) hI (bs (B:=B) (j:=15) hB rfl) fun m z I1 hm hz hI1=>bU hk (bU hk ⟨TF rfl,dF (l:=Df.map .bytes) (k4 hk) hI1 (bs (B:=B) (j:=15) hB rfl) (.inl rfl) nofun (TF rfl) fun y hy I2 hI2=>?_⟩))
 obtain⟨o,ho,rfl⟩:=List.mem_map.mp hy
 refine mh (k4 hk) hI2 (bs (B:=B) (j:=17) hB rfl) ((by decide+kernel:∀o∈Df,o∈bY) o ho) fun ts hts I3 hI3=>bU hk ⟨TF rfl,dF (l:=dy.map .str) (k4 hk) hI3 (bs (B:=B) (j:=17) hB rfl) (.inl rfl) nofun (TF rfl) fun y hy I4 hI4=>?_⟩
 obtain⟨t,ht,rfl⟩:=List.mem_map.mp hy
 refine bU hk (cf (m:=2) (k4 hk) hI4 (bs (B:=B) (j:=18) hB rfl) (by decide) (TF rfl) fun x I5 hx hI5=>?_)
 have rest (b:Bool):=Kw (n:=n) (I0:=I0) (c2:=.cell none) b hk hI5 (bs (B:=B) (j:=20) hB rfl) hw ho hts ht (a:=⟨m,z⟩) ⟨hm,hz⟩ (fun w I' h hI'=>q w I' h (im (B:=B) (j:=20) hI' rfl))
 by_cases h:(x:Int)=0
 ·exact ak h (rest true)
 ·exact ai h (rest false)
end
section
variable{n:Nat}{μ:Mu}{I I0:gF}{k B:Nat}{Q:KV}{w:List UInt8}
theorem DI(hk:3<=μ.length)(hI:cj (B+10) I)(hB:B+10000<=10^80)(hw:bS lH w)(q:∀w I',bk w->cj (B+10000) I'->Q (.d w.d) (ik μ I')):
  aA (n+39) (aY.body.drop 4) (jM lH w none none none none none μ.length) (ik (rW μ) I) (aR (ik μ I0) Q):=by
 have hwl:=(av (U:=lH) (by decide) hw).2.2
 refine bU hk ⟨TF rfl,TF rfl,TF rfl,TF rfl,TF rfl,TF rfl,TF rfl,TF rfl,TF rfl,TF rfl,TF rfl,dF (l:=Hi.map fun p=>.tuple [AD p.1,.str p.2]) (k4 hk) hI (bs (B:=B) (j:=10) hB rfl) (.inl rfl) nofun (TF rfl) fun y hy I1 hI1=>?_⟩
 obtain⟨p,hp,rfl⟩:=List.mem_map.mp hy
 have x0:([42,32]++w).length<=2+20:=la (TG 2) hwl
 have y0:([42,32]++aa lH).length<=2+8:=TG 10
 have hall:∀x∈Hi,∀b:Bool,(∀c∈ahead b++x.2,c<256)/\(ahead b).length+x.2.length<=20:=by decide+kernel
 have go (b:Bool) (I5:gF) (hI5:cj (B+12) I5):aA (n+39) ((aY.at 4).wb.drop 2) ⟨[some (.str lH),some (.bytes ([42,32]++w)),some (.bytes ([42,32]++aa lH)),none,none,none,none,none,none,none,none,none,none,none,none,some (.d (AD p.1)),some (.str p.2),some (.str (ahead b))],[μ.length,μ.length+1]⟩ (ik (rW μ) I5) (Az (aA (n+39) (aY.body.drop 5)) (aR (ik μ I0) Q)):=by
  have h:=hall p hp b
  have z:(aa (ahead b++p.2)).length<=20:=by rw[aL,TM];exact h.2
  have hl:(ahead b++p.2).length<=lim:=by rw[TM];exact tr h.2 rfl
  have row:=q _ I5 (KN (b:=b) hw hp) (im (B:=B) (j:=12) hI5 rfl)
  cases b<;>exact⟨TF rfl,tr h.2 rfl,az h.1 hl ⟨ll x0 z rfl,ll (la x0 z) (TG 2) rfl,tr h.2 rfl,az h.1 hl ⟨ll y0 z rfl,ll (la y0 z) (TG 2) rfl,TF rfl,gQ hk row⟩⟩⟩
 refine bU hk (cf (m:=2) (k4 hk) hI1 (bs (B:=B) (j:=11) hB rfl) (by decide) (TF rfl) fun x I5 hx hI5=>?_)
 by_cases h:(x:Int)=0
 ·exact ak h (go true I5 hI5)
 ·exact ai h (go false I5 hI5)
theorem yn{U T:List Nat}{told:D}(hk:3<=μ.length)(hw:w.length<=20)(hU:(aa U).length<=20)(hT:(aa T).length<=100)(hT2:∀c∈T,c<256)(q:Q (.d (.tuple [told,.bytes ([42,32]++w++aa T++[13,10]),.bytes ([42,32]++aa U++aa T++[13,10])])) (ik μ I)):
  aA (n+39) (aY.body.drop 7) ⟨[some (.str U),some (.bytes ([42,32]++w)),some (.bytes ([42,32]++aa U)),none,none,none,some (.d told),none,none,none,none,none,none,none,none,none,some (.str T),none],[μ.length,μ.length+1]⟩ (ik (rW μ) I) (aR (ik μ I0) Q):=by
 have x0:([42,32]++w).length<=2+20:=la (TG 2) hw
 have y0:([42,32]++aa U).length<=2+20:=la (TG 2) hU
 have hl:T.length<=lim:=aL T▸tr hT rfl
 exact az hT2 hl ⟨ll x0 hT rfl,ll (la x0 hT) (TG 2) rfl,az hT2 hl ⟨ll y0 hT rfl,ll (la y0 hT) (TG 2) rfl,TF rfl,gQ hk q⟩⟩
theorem vc(hk:3<=μ.length)(hI:cj (B+10) I)(hB:B+10000<=10^80)(hw:bS uN w)(q:∀w I',bk w->cj (B+10000) I'->Q (.d w.d) (ik μ I')):
  aA (n+39) (aY.body.drop 5) (jM uN w none none none none none μ.length) (ik (rW μ) I) (aR (ik μ I0) Q):=by
 have hwl:=(av (U:=uN) (by decide) hw).2.2
 refine bU hk ⟨TF rfl,dF (l:=Jt.map .str) (k4 hk) hI (bs (B:=B) (j:=10) hB rfl) (.inl rfl) nofun (TF rfl) fun y hy I1 hI1=>?_⟩
 obtain⟨T,hTL,rfl⟩:=List.mem_map.mp hy
 have a:(∀c∈T,c<256)/\(aa T).length<=100/\T.length<=100/\(T.drop 1).length<=100:=(by decide:∀T∈Jt,(∀c∈T,c<256)/\(aa T).length<=100/\T.length<=100/\(T.drop 1).length<=100) T hTL
 exact⟨tr a.2.2.1 rfl,by rw[JV];exact az (fun c hc=>a.1 c (List.mem_of_mem_drop hc)) (tr a.2.2.2 rfl) ⟨TF rfl,yn hk hwl (TF rfl) a.2.1 a.1 (q _ I1 (AJ hw hTL) (im (B:=B) (j:=11) hI1 rfl))⟩⟩
theorem Ej(hk:3<=μ.length)(hI:cj (B+10) I)(hB:B+10000<=10^80)(hw:bS xq w)(q:∀w I',bk w->cj (B+10000) I'->Q (.d w.d) (ik μ I')):
  aA (n+39) (aY.body.drop 5) (jM xq w none none none none none μ.length) (ik (rW μ) I) (aR (ik μ I0) Q):=by
 have hwl:=(av (U:=xq) (by decide) hw).2.2
 refine⟨TF rfl,bU hk (cf (m:=4) (k4 hk) hI (bs (B:=B) (j:=10) hB rfl) (by decide) (TF rfl) fun c I1 hc hI1=>⟨Int.natCast_nonneg _,Nat.le_of_lt_succ hc,TF rfl,?_⟩)⟩
 have hL:z5.take c∈Iu:=(by decide:∀c<4,z5.take c∈Iu) c hc
 show L3 _ _ (List.take c (z5.map D.str))
 rw[<-List.map_take]
 generalize z5.take c=L at hL
 have hall:∀L∈Iu,qT L∈mi/\(splitOn 32 (qT L)).drop 1=L/\(aa (qT L)).length<=100/\(∀x∈qT L,x<256)/\(splitOn 32 (qT L)).length<=10/\L.length<=3/\∀o∈L,o.length<=20:=by decide+kernel
 obtain⟨a2,a3,a4,a5,a6,a7,a8⟩:=hall L hL
 have row:=q _ I1 (KP hw hL) (im (B:=B) (j:=11) hI1 rfl)
 have hz:L.length<=lim:=tr a7 rfl
 have fin:=yn (n:=n) (I0:=I0) (T:=qT L) hk hwl (TF rfl) a4 a5 row
 refine id_map hz (aQ (fun o:List Nat=>D.str ([32]++o)) rfl hz (fun o ho K hK=>⟨ll (TG 1) (a8 o ho) rfl,hK⟩) (dA (fq (fun o:List Nat=>[32]++o) L) ?_))
 show(qT L).length+0<=lim/\_
 refine⟨aL (qT L)▸tr a4 rfl,rfl,a2,by rw[TN];exact tr a6 rfl,?_⟩
 rw[JV,<-List.map_drop,show(splitOn 32 (aq [] (L.map fun o=>[32]++o))).drop 1=L from a3]
 exact⟨by rw[TN];exact hz,TF rfl,fin⟩
theorem Eg:uL 97:=by
 intro n μ I B Q hk hI hB q
 refine Dl ?_
 rw[cn,dZ hk]
 refine bU hk ⟨TF rfl,dF (l:=L1.map .str) (k4 hk) hI (bs (B:=B) (j:=0) hB rfl) (.inl rfl) nofun (TF rfl) fun y hy I1 hI1=>?_⟩
 obtain⟨U,hU,rfl⟩:=List.mem_map.mp hy
 have u:U∈D8/\(∀c∈U,c<128)/\U.length<=20/\(aa U).length<=20:=(by decide:∀U∈L1,U∈D8/\(∀c∈U,c<128)/\U.length<=20/\(aa U).length<=20) U hU
 refine bU hk (gC (k4 hk) hI1 (bs (B:=B) (j:=1) hB rfl) u.2.1 (tr u.2.2.1 rfl) fun w hw I2 hI2=>?_)
 have hwl:=(av u.1 hw).2.2
 have go:aA (n+39) (aY.body.drop 2) (jM U w none none none none none μ.length) (ik (rW μ) I2) (aR (ik μ I) Q):=by
  have hI2:cj (B+10) I2:=im (B:=B) (j:=2) hI2 rfl
  cases hU with
  |head=>exact uW hk hI2 hB hw q
  |tail _ hU=>cases hU with
   |head=>exact A4 hk hI2 hB hw q
   |tail _ hU=>cases hU with
    |head=>exact⟨TF rfl,s9 hk hI2 hB hw q⟩
    |tail _ hU=>cases hU with
     |head=>exact⟨TF rfl,DI hk hI2 hB hw q⟩
     |tail _ hU=>cases hU with
      |head=>exact⟨TF rfl,Ej hk hI2 hB hw q⟩
      |tail _ hU=>cases hU with
       |head=>exact⟨TF rfl,vc hk hI2 hB hw q⟩
       |tail _ hU=>cases hU
 exact⟨ll (TG 2) hwl rfl,az (kh u.2.1) (tr u.2.2.1 rfl) ⟨ll (TG 2) u.2.2.2 rfl,TF rfl,go⟩⟩
end
section
variable{n:Nat}{μ:Mu}{I I0:gF}{k B:Nat}{Q:KV}
theorem Be(hk:3<=μ.length)(hI:cj B I)(hB:B+20000<=10^80)(q:∀w I',bk w->cj (B+20000) I'->Q (.d w.d) (ik μ I')):ae (n+41) 98 [.loc 2] (ik μ I) Q:=by
 refine Ah (cf (m:=5) hk hI (bs (B:=B) (j:=0) hB rfl) (by decide) (TF rfl) fun x I1 hx hI1=>?_)
 have fin (w:Row) (I':gF) (hw:bk w) (hI':cj (B+1+10000) I'):nJ (ik μ I) Q (ik μ I') w.d:=lG hk (q w I' hw (hI'.mono (by rw[Nat.add_assoc];exact Nat.add_le_add_left (TF rfl) B)))
 by_cases h4:(x:Int)=4
 ·refine ak h4 (dF (l:=er.map .str) hk hI1 (bs (B:=B) (j:=1) hB rfl) (.inl rfl) nofun (TF rfl) fun y hy I2 hI2=>?_)
  obtain⟨T,hT,rfl⟩:=List.mem_map.mp hy
  have ht:=zy hT
  have z:(aa T).length<=20:=aL T▸ht.len
  exact⟨TF rfl,az (kh ht.lt) (tr ht.len rfl) ⟨ll (TG 2) z rfl,ll (la (TG 2) z) (TG 2) rfl,az (kh ht.lt) (tr ht.len rfl) ⟨ll (TG 2) z rfl,ll (la (TG 2) z) (TG 2) rfl,TF rfl,fin _ _ (FA hT) (hI2.mono (Nat.add_le_add_left (TF rfl) (B+1)))⟩⟩⟩
 ·have hB1:B+1+10000<=10^80:=by rw[Nat.add_assoc];exact bs hB rfl
  refine ai h4 ⟨TF rfl,?_⟩
  match x,hx,h4 with
  |0,_,_=>exact ah (a:=0) rfl (TF rfl) (Eb hk hI1 hB1 fin)
  |1,_,_=>exact ah (a:=1) rfl (TF rfl) (wq hk hI1 hB1 fin)
  |2,_,_=>exact ah (a:=2) rfl (TF rfl) (K1 hk hI1 hB1 fin)
  |3,_,_=>exact ah (a:=3) rfl (TF rfl) (Eg hk hI1 hB1 fin)
  |4,_,h=>exact absurd rfl h
theorem Il{r:Nat}{x y:D}(h:Tells r x y):∀k,Dp (k+r+1) y:=by
 induction h with
 |atom r t=>exact fun k=>⟨mU (P:=fun x=>Dp (k+r) x) (by cases k+r<;>exact True.intro) (gX (P:=fun x=>Dp (k+r) x) (by cases k+r<;>exact True.intro)),TF rfl⟩
 |list r its hi hz ih=>exact fun k=>⟨all_map' fun a h=>ih a h k,by rw[TN];exact hz⟩
 |tuple r its hi hz ih=>exact fun k=>⟨all_map' fun a h=>ih a h k,by rw[TN];exact hz⟩
 |_=>exact fun k=>True.intro
theorem eq_list{l:List D}{P:Bool->Prop}(h:Dp 16 (.list l))(q:P true):Md l l P:=by
 cases l with
 |nil=>exact q
 |cons a l=>exact⟨rfl,h,q⟩
end
section
variable{n:Nat}{μ:Mu}{I I0:gF}{k B:Nat}{Q:KV}
noncomputable def uc(l:List Int):gF:=⟨(l.take 40).map fun i=>i.natAbs%10^60,0,0,26⟩
theorem OQ{α:Type}(l:List α):cut l none (some 40)=l.take 40:=by
 have e1:clip 40 l.length=min 40 l.length:=by simp only[clip];split<;>omega
 simp only[cut,pf,rY,e1,List.drop_zero]
 rw[<-List.take_eq_take_min]
theorem IX{l:List Int}(hl:l.length<=63)(q:Q (.loc (μ++[(uc l).l]).length) (μ++[(uc l).l]++[.gV [.loc μ.length,.int 0,.int 0,.int 26]])):ae (n+1) 84 [.d (.list (l.map .int))] μ Q:=by
 have hl1:(l.map D.int).length<=lim:=by rw[TN];exact tr hl rfl
 have ht:(l.take 40).length<=lim:=Ta (List.length_take_le ..) (TF rfl)
 refine Kf ⟨hl1,?_⟩
 show L3 _ _ (cut (l.map D.int) none (some 40))
 rw[OQ,<-List.map_take]
 refine id_map ht ?_
 rw[List.map_map]
 refine Oq (by rw[TN];exact ht) (tN (fun i:Int=>V.int i) (fun i:Int=>D.int ((i.natAbs%10^60:Nat):Int)) rfl (l.take 40) .same (fun i hi K hK=>⟨rfl,by decide,by decide,by decide,hK⟩) (qZ ⟨TF rfl,qZ ?_⟩))
 have e:(uc l).l=.list ((l.take 40).map fun i:Int=>D.int ((i.natAbs%10^60:Nat):Int)):=congrArg aI.list (List.map_map ..)
 rw[e] at q
 exact q
noncomputable def Li(w:Row)(d:D):Prop:=∃r,r<=9/\Piece d w.free/\Piece d w.plain/\Tells r d w.told/\mD d w.plain/\w.free.length<=100000/\w.plain.length<=100000
noncomputable abbrev RD:Type:=Row×D
section
variable{L:List RD}
theorem Lp{f:Row->List UInt8}(hl:(m7 (L.map fun x=>(x.2,f x.1))).length<=lim)(q:Q (.bytes (m7 (L.map fun x=>(x.2,f x.1)))) μ):on (me (L.map fun x=>D.bytes (f x.1))) fun r=>(aq [] r).length<=lim/\Q (.bytes (aq [] r)) μ:=by
 have e:aq [] (L.map fun x=>f x.1)=m7 (L.map fun x=>(x.2,f x.1)):=by rw[nY,m7,List.flatMap_map,List.flatMap_def]
 exact dA (bP (fun x=>f x.1) L) (by rw[e];exact⟨hl,q⟩)
theorem Cf{f:Row->List UInt8}(h:∀x∈L,(f x.1).length<=100000)(hl:L.length<=9):(m7 (L.map fun x=>(x.2,f x.1))).length<=lim:=by
 have go:∀L:List RD,(∀x∈L,(f x.1).length<=100000)->(m7 (L.map fun x=>(x.2,f x.1))).length<=L.length*100000:=fun L=>by
  induction L with
  |nil=>exact fun _=>TG _
  |cons x L ih=>
   intro h
   rw[List.map_cons,ze,TM,List.length_cons,Nat.succ_mul,Nat.add_comm]
   exact Nat.add_le_add (ih fun y hy=>h y (.tail _ hy)) (h x (.head _))
 exact Ta (Ta (go L h) (Nat.mul_le_mul_right 100000 hl)) (TF rfl)
theorem zD{K:KV}(hL:L.length<=lim)(h:∀x∈L,Li x.1 x.2)(q:K (.d (.list (L.map fun x=>x.1.told))) μ):L3 (DO (n+20) false (.call (.const (.fn 51)) [.lv 1]) (.lv 1) [] 2 0 (some []) K) μ (L.map fun x=>x.2):=
 id_map hL (aQ (fun x:RD=>x.1.told) rfl hL (fun x hx K hK=>(h x hx).elim fun r h=>by
  obtain⟨m,e⟩:=Nat.exists_eq_add_of_le h.1
  have e2:n+20=n+8+m+r+3:=by omega
  rw[e2]
  exact td h.2.2.2.1 hK) q)
theorem PG{x:D}{μ₁:Mu}(q:Q (.d x) []):nJ [] Q μ₁ x:=by unfold nJ;exact⟨fun h=>h,q⟩
theorem G_{v0:Option V}(hk:3<=μ.length)(h0:μ[0]? =some (.cell (some (.loc 2))))(hI:cj 0 I)(q:Q (.bool true) []):aA (n+62) (vX.body.drop 1) ⟨[v0,none,none,none,none,none,none],[0]⟩ (ik μ I) (aR [] Q):=by
 have m0 (I:gF) {P:aI->Prop} (p:P (.cell (some (.loc 2)))):iy (ik μ I) 0 P:=aS ((ea (by decide) (by decide)).trans h0) p
 refine m0 _ (cf (m:=9) hk hI (by decide) (by decide) (TF rfl) fun x I1 hx hI1=>⟨Int.natCast_nonneg (1+x),Int.ofNat_le.mpr (Ta (Nat.add_le_add_left (Nat.le_of_lt hx) 1) (TF rfl)),?_⟩)
 have hm:(List.range (1+x)).length<=9:=by rw[List.length_range,Nat.add_comm];exact hx
 refine mz (items:=(List.range (1+x)).map fun i:Nat=>V.int (i:Int)) (by rw[TN];exact tr hm rfl) (iT 20000 Row.d bk (fun i:Nat=>V.int (i:Int)) rfl (List.range (1+x)) .same hI1 (Ta (Nat.add_le_add_left (Nat.mul_le_mul_right 20000 hm) _) (by decide)) (fun y hy B2 I2 K hI2 hB2 hK=>m0 _ (Be (n:=n+21) hk hI2 hB2 hK)) (fun as I3 has hA hI3=>lG hk ?_))
 have has:as.length<=9:=has▸hm
 obtain⟨L,rfl,hLp⟩:=yD (P:=Li) as hA
 rw[TN] at has
 have hL:L.length<=lim:=tr has rfl
 have hLm {β:Type} (f:RD->β):(L.map f).length<=lim:=by rw[TN];exact hL
 have c1:=Cf (f:=Row.free) (fun x hx=>(hLp x hx).elim fun r h=>h.2.2.2.2.2.1) has
 have c2:=Cf (f:=Row.plain) (fun x hx=>(hLp x hx).elim fun r h=>h.2.2.2.2.2.2) has
 have p1:∀x∈L.map fun x:RD=>(x.2,x.1.free),Piece x.1 x.2:=all_map' (P:=fun x:D×List UInt8=>Piece x.1 x.2) fun y hy=>(hLp y hy).elim fun r h=>h.2.1
 have p2:∀x∈L.map fun x:RD=>(x.2,x.1.plain),Piece x.1 x.2:=all_map' (P:=fun x:D×List UInt8=>Piece x.1 x.2) fun y hy=>(hLp y hy).elim fun r h=>h.2.2.1
 have dtold:Dp 16 (.list (L.map fun x=>x.1.told)):=⟨all_map' fun x hx=>(hLp x hx).elim fun r h=>by
  have:=Il h.2.2.2.1 (14-r)
  rwa [show 14-r+r+1=15 by have:=h.1;omega] at this,hLm _⟩
 have dplain:Dp 16 (.list (L.map fun x=>.bytes x.1.plain)):=⟨all_map' fun x hx=>True.intro,hLm _⟩
 have two (f:Row->List UInt8):(L.map fun x=>(x.2,f x.1)).map (·.1)=L.map fun x=>x.2:=List.map_map ..
 have e:(L.map (·.1)).map Row.d=L.map fun x:RD=>x.1.d:=List.map_map ..
 rw[e]
 refine id_map hL (aQ (fun x:RD=>x.1.told) rfl hL (fun x hx K hK=>ah (a:=0) rfl (TF rfl) hK) (id_map hL (aQ (fun x:RD=>D.bytes x.1.free) rfl hL (fun x hx K hK=>ah (a:=1) rfl (TF rfl) hK) (Lp (f:=Row.free) c1 (kL c1 p1 (hLm _) ?_)))))
 rw[two Row.free]
 refine zD (n:=n+42) hL hLp ⟨rfl,dtold,id_map hL (aQ (fun x:RD=>D.bytes x.1.plain) rfl hL (fun x hx K hK=>(hLp x hx).elim fun r h=>h.2.2.2.2.1 (n:=n+2) hK) (Lp (f:=Row.plain) c2 (kL c2 p2 (hLm _) ?_)))⟩
 rw[two Row.plain]
 refine id_map hL (aQ (fun x:RD=>D.bytes x.1.plain) rfl hL (fun x hx K hK=>ah (a:=2) rfl (TF rfl) hK) (eq_list dplain (zD (n:=n+42) hL hLp (eq_list dtold ?_))))
 exact PG q
end
theorem Ox{x:aI}{K:Mu->Prop}(q:K (μ.set k x)):lX k x μ K:=by unfold lX;exact q
theorem J'{l:List Int}(hl:l.length<=63)(q:Q (.bool true) []):ae (n+63) 99 [.d (.list (l.map .int))] [] Q:=by
 have ok:cj 0 (uc l):=⟨by rw[uc,TN];exact Ta (List.length_take_le ..) (TF rfl),TG _⟩
 exact OM (IX hl (aS (x:=.cell none) rfl (Ox (G_ (μ:=[.cell (some (.loc 2)),.dead,.dead]) (I:=uc l) (TG _) rfl ok q))))
end
section
variable{cl:Str->Option Addr}{h F:Heap}{c:Cx}
theorem M7{v:Value}{i:Int}{as:List Addr}(r:ReadsW [] cl h v (.int i) as):∃t,v=.int i t:=by cases r;exact⟨_,rfl⟩
theorem Ku{v:Value}{xs:List WData}{as:List Addr}(r:ReadsW [] cl h v (.list xs) as):∃a o vs n bs,v=.ref a/\h.get? a=some o/\o.cls=.type "list"/\o.data=.seq vs n/\ReadsAllW [] cl h vs.toList xs bs:=by
 cases r with
 |list h1 h2 h3 h4=>exact⟨_,_,_,_,_,rfl,h1,h2,h3,h4⟩
theorem B6{vs:List Value}{x:WData}{xs:List WData}{as:List Addr}(r:ReadsAllW [] cl h vs (x::xs) as):∃u us a b,vs=u::us/\ReadsW [] cl h u x a/\ReadsAllW [] cl h us xs b:=by
 cases r with
 |cons r1 r2=>exact⟨_,_,_,_,rfl,r1,r2⟩
theorem H5{vs:List Value}{as:List Addr}(r:ReadsAllW [] cl h vs [] as):vs=[]:=by cases r;rfl
theorem items_int(xs:List WData):∀{vs:List Value} {as:List Addr},ReadsAllW [] cl h vs xs as->WShape.hasItems [] xs .int=true->∃l:List Int,xs.length=l.length/\jm c F (l.map .int) vs:=by
 induction xs with
 |nil=>exact fun r hs=>⟨[],rfl,H5 r⟩
 |cons x xs ih=>
  intro vs as r hs
  obtain⟨hs1,hs2⟩:=a2 hs
  obtain⟨u,us,a,b,rfl,r1,r2⟩:=B6 r
  obtain⟨l,hl,C⟩:=ih r2 hs2
  cases x with
  |int i=>exact⟨i::l,congrArg Nat.succ hl,u,us,rfl,M7 r1,C⟩
  |_=>exact nf hs1
end
theorem Iy:HP (Str.ofString "law") (.fn 99)=true:=by kernel_rfl
noncomputable def Oj:V->Prop
 |.fn _=>True
 |_=>False
theorem ES(w:World)(s₀ s₁:Shared)(mg mb:Str->Option Value)(hT:∃p l mean,Top p l mean mg mb s₁.heap/\importsNone p=true)(hY:Lo s₁.heap)(a:Addr)(ha:mg (Str.ofString "law")=some (.ref a))(hg:s₁.gens=#[])
  (xs:List WData) (vs:List Value) (as:List Addr) (hsh:WShape.hasItems [] xs .int=true) (hlen:xs.length<=63) (hr:ReadsAllW [] (classAt s₀.heap) s₁.heap vs [.list xs] as):
  wA (model pw w) callerA (PySem.call (.ref a) vs) (fun v s'=>v=.bool true/\OldK s₁.heap s'.heap/\s'.os=s₁.os/\s'.gens=#[]) s₁:=by
 obtain⟨p,l,mean,T,hi⟩:=hT
 obtain⟨g,w0,hG0,v1,v2,v3,kb,tabs⟩:=hY
 have only_at:∀{b o},(only s₁.heap (fun b=>b∉IA)).get? b=some o↔b∉IA/\s₁.heap.get? b=some o:=eJ
 generalize only s₁.heap (fun b=>b∉IA)=hB at only_at
 have hG:∀b o,g b=some o->hB.get? b=some o:=fun b o e=>only_at.mpr ⟨(hG0 b o e).2,(hG0 b o e).1⟩
 have sub:Le hB s₁.heap:=fun b o e=>(only_at.mp e).2
 have notab:∀b o,s₁.heap.get? b=some o->o.cls≠.none->b∉IA:=by
  intro b o e hc hb
  obtain⟨li,hli,rfl⟩:=List.mem_map.mp hb
  cases (tabs li hli).symm.trans e
  exact hc rfl
 have G:Good (zL w (sE g) hB):=IQ hG (HE T hi (fun b o e hc=>only_at.mpr ⟨hc.elim (notab b o e) fun q=>q▸by decide+kernel,e⟩) (fun o e=>only_at.mpr ⟨by decide+kernel,e⟩) (fun o e=>only_at.mpr ⟨by decide+kernel,e⟩) fun o e=>only_at.mpr ⟨by decide+kernel,e⟩) v1 v2 v3 kb
 have hfa:(zL w (sE g) hB).fa[99]? =some a:=by
  rcases G.name (Str.ofString "law") (.fn 99) Iy with⟨u,e1,b,e2,h⟩|⟨b,e1,e2,e,e3⟩
  ·have hu:=(mg_of (G.KX.keeps sub) T.g e1).symm.trans ha
   cases e2
   cases hu
   exact h
  ·exact(Eq.mp (congrArg Oj e) trivial:False).elim
 have tb:∀li∈fF,hB.get? li.P=none:=fun li hli=>Option.eq_none_iff_forall_ne_some.mpr fun o e=>(only_at.mp e).1 (List.mem_map.mpr ⟨li,hli,rfl⟩)
 have S:Sat (zL w (sE g) hB) ⟨hB,[],s₁⟩ []:=⟨Le.rfl,sub,rfl,fun k p m e=>(nomatch e),fun b m=>(nomatch m),List.nodup_nil,fun li hli=>⟨tb li hli,#[],tabs li hli,.inl rfl⟩⟩
 obtain⟨u,us,b1,b2,rfl,r1,r2⟩:=B6 hr
 cases H5 r2
 obtain⟨a',o',vs',n',bs',rfl,h1,h2,h3,h4⟩:=Ku r1
 obtain⟨l,hl,C⟩:=items_int (c:=zL w (sE g) hB) (F:=hB) xs h4 hsh
 have hl:l.length<=63:=hl▸hlen
 have C:CV (zL w (sE g) hB) hB [] (.d (.list (l.map .int))) (.ref a'):=bf.mpr ⟨a',vs'.toList,rfl,⟨o',only_at.mpr ⟨notab _ _ h1 (fun e=>nomatch h2.symm.trans e),h1⟩,h2,n',h3⟩,C⟩
 have W:=J' (n:=600) (Q:=fun v μ=>v=.bool true) hl rfl (zL w (sE g) hB) callerA ⟨hB,[],s₁⟩ [.ref a'] a G hfa ⟨by decide,by decide,rfl⟩ S ⟨_,[],rfl,C,rfl⟩
 refine aG W fun v s' ⟨w',e,st,v',μ,S',C',q⟩=>?_
 subst e
 subst q
 refine⟨C',⟨fun b o e=>?_,fun b o e=>?_⟩,st.o,st.g.trans hg⟩
 ·by_cases hb:b∈IA
  ·obtain⟨li,hli,rfl⟩:=List.mem_map.mp hb
   obtain⟨ps,hps,r⟩:=(S'.tab li hli).2
   cases (tabs li hli).symm.trans e
   obtain⟨oc,vs,file,tf,flags,tg,inF,text,tt,c1,c2,c3,c4,r⟩:=G.hd li hli
   exact .inr (.inl ⟨⟨li.c,oc,vs,sub _ _ c1,c2,c3,c4⟩,rfl,#[],ps,rfl,(Array.empty_append (xs:=ps)).symm▸hps⟩)
  ·exact .inl (st.keep b o e (fun m=>nomatch m) hb fun m=>nomatch m)
 ·by_cases hb:b∈IA
  ·obtain⟨li,hli,rfl⟩:=List.mem_map.mp hb
   exact(S'.tab li hli).2.elim fun ps h=>⟨_,h.1⟩
  ·exact⟨o,st.keep b o e (fun m=>nomatch m) hb fun m=>nomatch m⟩
theorem OK(R:WRecords)(xs:List WData):(WTm.eq .res (.lit (.bool true))).holds R {args:=[.list xs],res:=some (.bool true),after:=[.list xs]}=true:=by kernel_rfl
theorem Qi(R:WRecords)(xs:List WData)(h:(WTm.and (.not (.lt (.lit (.int 63)) (.len (.arg 0)))) (.lit (.bool true))).holds R {args:=[.list xs]}=true):xs.length<=63:=by
 have e:(WTm.and (.not (.lt (.lit (.int 63)) (.len (.arg 0)))) (.lit (.bool true))).holds R {args:=[.list xs]}=(WTm.and (.not (.lit (.bool (decide ((63:Int)<(xs.length:Int)))))) (.lit (.bool true))).holds R {args:=[.list xs]}:=by kernel_rfl
 have h:=e.symm.trans h
 cases q:decide ((63:Int)<(xs.length:Int))with
 |true=>
  have z:(WTm.and (.not (.lit (.bool true))) (.lit (.bool true))).holds R {args:=[.list xs]}=false:=by kernel_rfl
  exact nf (z.symm.trans (q▸h))
 |false=>exact Nat.le_of_not_lt fun q'=>of_decide_eq_false q (Int.ofNat_lt.mpr q')
theorem N2:fT.Holds:=by
 refine⟨HL,?_⟩
 obtain⟨⟨d,kwd⟩,hd⟩:=Option.isSome_iff_exists.mp FW
 have hdd:=KC
 rw[hd] at hdd
 simp only[Option.map_some,Option.some.injEq,Prod.mk.injEq] at hdd
 refine As (r:=fT.row) (q:=q0) (YP:=fun _ h=>Lo h) OS (fun w s e=>of_eq_true e) (fun w h h' y k=>y.keeps k) hd hdd.1 hdd.2 rfl rfl rfl RT Ac Gp Ea rfl Gd vm ?_
 intro w s₀ s₁ mg mb hT hY a ha hg args vs as hpre hr
 obtain⟨l,mean,T⟩:=hT
 obtain⟨p1,p2⟩:=pre_splitW hpre
 have p1:WShape.hasAll [] args [.list .int]=true:=p1
 obtain⟨x,rest,rfl,p3,p4⟩:=hasAllW_cons p1
 cases rest with
 |cons _ _=>exact nf p4
 |nil=>
  obtain⟨xs,rfl,hsh⟩:∃xs,x=.list xs/\WShape.hasItems [] xs .int=true:=by
   cases x with
   |list xs=>
    have e:WShape.has [] (.list xs) (.list .int)=(WShape.hasItems [] xs .int||false):=by kernel_rfl
    exact⟨xs,rfl,(Bool.or_false _).symm.trans (e.symm.trans p3)⟩
   |_=>exact nf p3
  have hlen:xs.length<=63:=Qi _ xs p2
  have hpost:fT.row.toRowW.claim.post [.list xs] (.bool true) [.list xs]=true:=by
   show(WShape.has [] (.bool true) .bool&&(WTm.eq .res (.lit (.bool true))).holds [] {args:=[.list xs],res:=some (.bool true),after:=[.list xs]})=true
   rw[OK];rfl
  refine aG (ES w s₀ s₁ mg mb ⟨q0,l,mean,T,xB⟩ hY a ha hg xs vs as hsh hlen hr) fun v s' ⟨h1,h2,h3,h4⟩=>?_
  subst h1
  exact⟨.inl ⟨_,_,[],rfl,fun _=>rfl,ReadsW.bool true,hpost,fun _=>⟨List.nodup_nil,fun _ hm=>by cases hm⟩⟩,h2,h3,.of_eq h4⟩
end Mine
theorem PySem.Challenge.cw_pq0957_01_holds : PySem.Challenge.rw_pq0957_01.Holds :=
 Mine.N2
