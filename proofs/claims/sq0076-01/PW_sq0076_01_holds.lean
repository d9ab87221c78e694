import PyProof.Rows.All
import Wide.All
import OpenK.AllK
import Wide.FinOn
import KE.KBytesWalk
import PyProof.StrWalks
import PyProof.WalksMore
import KE.KPar
import PyProof.Draws
import PyProof.EnumMake
import PyProof.DictItems
import PyProof.ExcInit
import PyProof.ExcClass2
import PyProof.ExcBaseAll.ValueError
import PyProof.StationsW
import KE.BytesMake
import PyProof.IsiTupleOf
import PyProof.IsiTupleAll
import KE.KDictOf
import PyProof.EqLayable
import KE.KTryMore
import PyProof.TupleOfGen
import PyProof.CollectStr
import Lean
import PySem.Challenge.RW_sq0076_01
set_option Elab.async false
set_option linter.all false
set_option linter.unusedVariables false
set_option maxRecDepth 100000
set_option maxHeartbeats 0
set_option genSizeOf false
set_option genInjectivity false
set_option genCtorIdx false
set_option tactic.hygienic false
namespace Mine
section
open PySem PySem.W PySem.Calls PyProof.Rows
abbrev pw0:Program:=PySem.Challenge.pw_sq0076_01
abbrev rw0:OpenLaw:=PySem.Challenge.rw_sq0076_01
end
section
open PySem PySem.Spec PySem.Calls PyProof.Rows PySem.W
inductive Ch where
 |c (n:Nat)
 |h (s:Str) (b:Nat)
noncomputable abbrev Wd:=List Ch
noncomputable def Ch.den:Ch->List Nat
 | .c n=>[n]
 | .h s _=>s.cps.toList
noncomputable def Ch.len:Ch->Nat
 | .c _=>1
 | .h _ b=>b
noncomputable def Ch.ok:Ch->Prop
 | .c _=>True
 | .h s b=>s.length≤b
noncomputable def wcps:Wd->List Nat
 |[]=>[]
 |x::r=>x.den++wcps r
noncomputable def wden(w:Wd):Str:=⟨(wcps w).toArray⟩
noncomputable def wlen:Wd->Nat
 |[]=>0
 |x::r=>x.len+wlen r
noncomputable def wok:Wd->Prop
 |[]=>True
 |x::r=>x.ok∧wok r
theorem b0u:∀a b:Wd,wcps (a++b)=wcps a++wcps b
 |[],b=>rfl
 |x::a,b=>by show x.den++wcps (a++b)=x.den++wcps a++wcps b;rw[b0u a b,List.append_assoc]
theorem b0k{a b:Str}(h:a.cps.toList=b.cps.toList):a=b:=by
 obtain⟨a⟩:=a;obtain⟨b⟩:=b
 exact congrArg Str.mk (Array.toList_inj.mp h)
theorem c0i(a b:Str):(a++b).cps.toList=a.cps.toList++b.cps.toList:=by
 show(a.cps++b.cps).toList=_
 simp
theorem a0i(w:Wd):(wden w).cps.toList=wcps w:=rfl
theorem a0c(a b:Wd):wden (a++b)=wden a++wden b:=b0k (by rw[c0i,a0i,a0i,a0i,b0u])
theorem b0d:∀a b:Wd,wlen (a++b)=wlen a+wlen b
 |[],b=>by simp[wlen]
 |x::a,b=>by show x.len+wlen (a++b)=x.len+wlen a+wlen b;rw[b0d a b];lia
theorem a0p:∀{a b:Wd},wok a->wok b->wok (a++b)
 |[],_,_,h=>h
 |_::_,_,h,k=>⟨h.1,a0p h.2 k⟩
theorem a0s:∀{w:Wd},wok w->(wden w).length≤wlen w
 |[],_=>Nat.le_refl 0
 |x::r,h=>by
  have ih:=a0s h.2
  have e:(wden (x::r)).length=x.den.length+(wden r).length:=by
   show(x.den++wcps r).toArray.size=x.den.length+(wcps r).toArray.size
   simp
  rw[e]
  show _≤x.len+wlen r
  have:x.den.length≤x.len:=by
   cases x with
   |c n=>exact Nat.le_refl 1
   |h s b=>simpa[Ch.den,Ch.len,Ch.ok,Str.length] using h.1
  lia
noncomputable def lits:List Nat->Wd
 |[]=>[]
 |n::r=>.c n::lits r
noncomputable def wS(s:Str):Wd:=lits s.cps.toList
theorem f0u:∀l:List Nat,wcps (lits l)=l
 |[]=>rfl
 |n::r=>by show n::wcps (lits r)=n::r;rw[f0u r]
theorem e0e:∀l:List Nat,wok (lits l)
 |[]=>trivial
 |_::r=>⟨trivial,e0e r⟩
theorem k0d(s:Str):wden (wS s)=s:=b0k (f0u _)
theorem f0g(s:Str):wok (wS s):=e0e _
theorem a0e(s:Str)(b:Nat):wden [.h s b]=s:=b0k (by rw[a0i];show s.cps.toList++[]=_;rw[List.append_nil])
noncomputable def intCs(i:Int):List Char:=match i with
 | .ofNat n=>Nat.toDigits 10 n
 | .negSucc n=>'-'::Nat.toDigits 10 (n+1)
noncomputable def intW(i:Int):Wd:=lits ((intCs i).map Char.toNat)
theorem j0j(i:Int):toString i=String.ofList (intCs i):=by
 cases i with
 |ofNat n=>rfl
 |negSucc n=>
  show "-"++Nat.repr (n+1)=_
  apply String.toList_injective
  simp[intCs,Nat.repr,String.toList_append,String.toList_ofList]
theorem k0w(i:Int):wden (intW i)=Str.ofString (toString i):=by
 rw[j0j,PySem.W.Fast.ofString_ofList]
 exact b0k (by rw[a0i];unfold intW;rw[f0u])
noncomputable def wlit:Wd->Option (List Nat)
 |[]=>some []
 | .c n::r=>match wlit r with
  |some l=>some (n::l)
  |none=>none
 | .h _ _::_=>none
theorem a0x:∀{w:Wd}{l:List Nat},wlit w=some l->wcps w=l
 |[],_,e=>by cases e;rfl
 | .c n::r,l,e=>by
  unfold wlit at e
  cases h:wlit r with
  |none=>rw[h] at e;cases e
  |some k=>rw[h] at e;cases e;show n::wcps r=_;rw[a0x h]
 | .h _ _::_,_,e=>by cases e
structure Glu where
 w:Int
 more:Nat
 first:Nat
 less:Nat
 second:Nat
inductive Nd where
 |box (kind shift sign order up:Nat) (a b c:Int) (inner:List Nd)
 |cell (spans more order:Nat) (a b c:Int) (inner:List Nd)
 |char (font code:Nat)
 |lig (font code left right:Nat)
 |mark (n:Nat)
 |spec (n:Nat)
 |write (n:Nat)
 |oout (n:Nat)
 |cout (n:Nat)
 |skip (way:Nat) (g:Glu)
 |lead (sort:Nat) (g:Glu) (leader:Nd)
 |rule (a b c:Nat)
 |kern (n:Int) (sort:Nat)
 |pen (n:Int)
 |edge (n:Int) (on:Nat)
 |disc (a b c:List Nd)
 |adj (inner:List Nd)
 |ins (num size:Nat) (cost:Int) (g:Glu) (inner:List Nd)
inductive Dom where
 |glu (g:Glu)
 |flow (u:Wd) (g:Glu)
 |gparts (g:Glu)
 |font (i:Nat)
 |node (nd:Nd)
 |part (nd:Nd)
 |lists (nd:Nd)
 |parts (l:List Nd)
 |items (l:List Nd)
 |rows (l:List Str)
 |desc (nd:Nd)
 |descs (l:List Nd)
 |names
 |show_ (depth breadth:Nat)
 |tools
 |lett (nd:Nd)
 |lpart (nd:Nd)
 |sub (k:Nat) (d:Dom)
set_option genCtorIdx true in
inductive V where
 |none
 |bool (b:Bool)
 |int (i:Int)
 |num (n:Int)
 |dimn (n:Int)
 |oct (n:Nat)
 |str (w:Wd)
 |byt (b:List Nat)
 |con (v:Value)
 |tup (l:List V)
 |lst (l:List V) (n:Nat)
 |obj (C:Addr) (fs:List (Str × V))
 |dct (l:List (Int × V))
 |gl (k:Nat)
 |rng (n:Nat)
 |abs (d:Dom)
 |any
noncomputable def hw(n:Int):Wd:=(match n with| .negSucc _=>[Ch.c 45]| .ofNat _=>[])++(intW (Int.ofNat (n.natAbs / 2))++(match n.natAbs % 2 with|0=>wS ".0"|_=>wS ".5"))
noncomputable def hh(n:Int):Wd:=[.h (wden (hw n)) 16]
noncomputable def ordW:Nat->Wd
 |0=>[]
 |1=>wS "fil"
 |2=>wS "fill"
 |_=>wS "filll"
noncomputable def unitW(u:Wd):Nat->Wd
 |0=>u
 |k+1=>ordW (k+1)
noncomputable def gtxt(u:Wd)(g:Glu):Wd:=
 hh g.w++(u++((match g.more with|0=>[]|k+1=>wS " plus "++(hw (Int.ofNat (k+1))++unitW u g.first))++
  (match g.less with|0=>[]|k+1=>wS " minus "++(hw (Int.ofNat (k+1))++unitW u g.second))))
noncomputable def gtxtS(u:Wd)(g:Glu):Str:=wden (gtxt u g)
noncomputable def sizesW(a b c:Int):Wd:=wS "("++(hh a++(wS "+"++(hh b++(wS ")x"++hh c))))
noncomputable def upOf:Nat->Nat
 |0=>1
 |1=>0
 |2=>7
 |3=>50000
 |_=>3
noncomputable def setW(sign order up:Nat):Wd:=match sign,upOf up with
 |0,_=>[]
 |_,0=>[]
 |s+1,u=>wS ", glue set "++((match s with|0=>[]|_=>wS "- ")++((match Nat.ble 40001 u with|true=>wS ">20000.0"|false=>hw (Int.ofNat u))++ordW order))
noncomputable def shiftW(shift:Nat):Wd:=match shift with
 |1=>[]
 |_=>wS ", shifted "++hw ((shift:Int) - 1)
noncomputable def codeOf:Nat->Nat
 |0=>97
 |1=>32
 |2=>10
 |3=>127
 |4=>200
 |_=>126
noncomputable def codeW:Nat->Wd
 |0=>wS "a"
 |1=>wS " "
 |2=>wS "^^J"
 |3=>wS "^^?"
 |4=>wS "^^c8"
 |_=>wS "~"
noncomputable def fontW:Nat->Wd
 |0=>wS "fa"
 |_=>wS "big"
noncomputable def bars:Nat->Wd
 |0=>[]
 |_=>wS "|"
noncomputable def markW(n:Nat):Wd:=wS "{"++(.c (65+n)::wS "\\ab ##1}")
noncomputable def streamW(n:Nat):Wd:=match Nat.ble n 15 with
 |true=>intW (Int.ofNat n)
 |false=>wS "*"
noncomputable def skipW:Nat->Wd
 |0=>wS "\\glue "
 |1=>wS "\\glue(\\abovedisplayskip) "
 |2=>wS "\\glue(\\topskip) "
 |3=>wS "\\glue(\\medmuskip) "
 |4=>wS "\\glue(\\nonscript)"
 |_=>wS "\\glue(\\mskip) "
noncomputable def skipSort:Nat->Nat
 |0=>0
 |1=>103
 |2=>107
 |3=>116
 |4=>5
 |_=>4
noncomputable def skipUnit:Nat->Wd
 |5=>wS "mu"
 |_=>[]
noncomputable def leadW:Nat->Wd
 |0=>[]
 |1=>wS "c"
 |_=>wS "x"
noncomputable def ruleW:Nat->Wd
 |0=>wS "*"
 |1=>hw 1
 |_=>hw 4
noncomputable def kernW(n:Int):Nat->Wd
 |0=>wS "\\kern"++hh n
 |1=>wS "\\kern "++hh n
 |2=>wS "\\kern "++(hh n++wS " (for accent)")
 |_=>wS "\\mkern"++(hh n++wS "mu")
noncomputable def numH(n:Int):Wd:=[.h (Str.ofString (toString n)) 16]
noncomputable def textOf:Nd->Wd
 | .box k sh sg o up a b c _=>wS "\\"++((match k with|0=>wS "h"|_=>wS "v")++(wS "box"++(sizesW a b c++(setW sg o up++shiftW sh))))
 | .cell sp m o a b c _=>wS "\\unsetbox"++(sizesW a b c++((match sp with|0=>[]|s+1=>wS " ("++(intW (Int.ofNat (s+2))++wS " columns)"))++
   ((match m with|0=>[]|k+1=>wS ", stretch "++(hw (Int.ofNat (k+1))++ordW o))++(match m with|0=>[]|1=>[]|k+2=>wS ", shrink "++hw (Int.ofNat ((k+2) / 2))))))
 | .char i c=>wS "\\"++(fontW i++(wS " "++codeW c))
 | .lig i c l r=>wS "\\"++(fontW i++(wS " "++(codeW c++(wS " (ligature "++(bars l++(wS "f^^@"++(bars r++wS ")")))))))
 | .mark n=>wS "\\mark"++markW n
 | .spec n=>wS "\\special{"++(.c (65+n)::wS "^^I}")
 | .write n=>wS "\\write"++(streamW n++markW n)
 | .oout n=>wS "\\openout"++(streamW n++wS "=toc")
 | .cout n=>wS "\\closeout"++streamW n
 | .skip w g=>skipW w++(match w with|4=>[]|_=>[.h (gtxtS (skipUnit w) g) 200])
 | .lead s g _=>wS "\\"++(leadW s++(wS "leaders "++[.h (gtxtS [] g) 200]))
 | .rule a b c=>wS "\\rule("++(ruleW a++(wS "+"++(ruleW b++(wS ")x"++ruleW c))))
 | .kern n s=>kernW n s
 | .pen n=>wS "\\penalty "++numH n
 | .edge n on=>wS "\\math"++((match on with|0=>wS "off"|_=>wS "on")++(match n with| .ofNat 0=>[]|n=>wS ", surrounded "++hw n))
 | .disc _ _ c=>wS "\\discretionary"++(match c with|[]=>[]|c=>wS " replacing "++intW (Int.ofNat c.length))
 | .adj _=>wS "\\vadjust"
 | .ins num size cost g _=>wS "\\insert"++([.h (Str.ofString (toString (Int.ofNat num))) 16]++(wS ", natural size "++(hh (Int.ofNat size)++(wS "; split("++([.h (gtxtS [] g) 200]++(wS ",1.0); float cost "++numH cost))))))
noncomputable def txt(nd:Nd):Str:=wden (textOf nd)
noncomputable def listsOf:Nd->List (Wd × List Nd)
 | .box _ _ _ _ _ _ _ _ l=>[(wS ".",l)]
 | .cell _ _ _ _ _ _ l=>[(wS ".",l)]
 | .adj l=>[(wS ".",l)]
 | .ins _ _ _ _ l=>[(wS ".",l)]
 | .lead _ _ l=>[(wS ".",[l])]
 | .disc a b _=>[(wS ".",a),(wS "|",b)]
 |_=>[]
noncomputable def repl:Nd->List Nd
 | .disc _ _ c=>c
 |_=>[]
noncomputable def gluOk(g:Glu):Prop:=g.more<5∧g.first<4∧g.less<5∧g.second<4
noncomputable def letOk:Nd->Prop
 | .char i c=>i<2∧c<6
 | .lig i c l r=>i<2∧c<6∧l<2∧r<2
 |_=>False
noncomputable def leafOk:Nd->Prop
 | .char i c=>i<2∧c<6
 | .lig i c l r=>i<2∧c<6∧l<2∧r<2
 | .mark n=>n<20
 | .spec n=>n<20
 | .write n=>n<20
 | .oout n=>n<20
 | .cout n=>n<20
 | .skip w g=>w<6∧gluOk g
 | .rule a b c=>a<3∧b<3∧c<3
 | .kern _ s=>s<4
 | .pen _=>True
 | .edge n on=> -9≤n∧n≤20∧on<2
 |_=>False
noncomputable def leadOk:Nd->Prop
 | .box _ _ _ _ _ _ _ _ _=>True
 | .rule _ _ _=>True
 |_=>False
noncomputable def WfN:Nat->Nd->Prop
 |0,nd=>leafOk nd
 |k+1,nd=>match nd with
  | .box kk sh sg o up _ _ _ l=>(kk<2∧sh<4∧sg<3∧o<4∧up<5)∧l.length≤3∧∀x∈l,WfN k x
  | .cell sp m o _ _ _ l=>(sp<3∧m<5∧o<4)∧l.length≤3∧∀x∈l,WfN k x
  | .lead s g l=>s<3∧gluOk g∧leadOk l∧WfN k l
  | .disc a b c=>(a.length≤2∧b.length≤2∧c.length≤2)∧(∀x∈a,letOk x)∧(∀x∈b,letOk x)∧∀x∈c,letOk x
  | .adj l=>l.length≤3∧∀x∈l,WfN k x
  | .ins num size _ g l=>(num<200∧size<9∧gluOk g)∧l.length≤3∧∀x∈l,WfN k x
  |nd=>leafOk nd
noncomputable def DomWf(k:Nat):Dom->Prop
 | .items l=>l.length≤3∧∀x∈l,WfN k x
 | .node nd=>WfN k nd
 |_=>True
noncomputable def nat(n:Nat):V:=.int (Int.ofNat n)
noncomputable def ordOf:Nat->Nat->Nat
 |0,_=>0
 |_+1,o=>o
noncomputable def gluV(g:Glu):V:=.obj 249 [("width",.dimn g.w),("stretch",nat (32768 * g.more)),("stretch_order",nat (ordOf g.more g.first)),("shrink",nat (32768 * g.less)),("shrink_order",nat (ordOf g.less g.second))]
noncomputable def gpartsV(g:Glu):V:=.tup [.dimn g.w,nat (32768 * g.more),nat (ordOf g.more g.first),nat (32768 * g.less),nat (ordOf g.less g.second)]
noncomputable def fontNm:Nat->Wd
 |0=>wS "fa"
 |_=>wS "fb"
noncomputable def fontV(i:Nat):V:=.obj 1202 [("number",nat (i+1)),("name",.str (fontNm i)),("size",.any),("design",.any),("check",.any),("params",.any),("chars",.any),("program",.any),("kerns",.any),("boundary",.any),("edge_start",.any),("hyphen_char",.any),("skew_char",.any)]
noncomputable def tokV(n:Nat):V:=.tup [.tup [.int 11,nat (65+n)],.tup [.int 0,.int 1],.tup [.int 6,.int 35],.tup [.int 12,.int 49]]
noncomputable def four(o:Nat)(x:Int):List V:=match o with
 |0=>[.int x,.int 0,.int 0,.int 0]
 |1=>[.int 0,.int x,.int 0,.int 0]
 |2=>[.int 0,.int 0,.int x,.int 0]
 |_=>[.int 0,.int 0,.int 0,.int x]
noncomputable def ruleV:Nat->V
 |0=>.none
 |1=>.int 32768
 |_=>.int 131072
noncomputable def ruleT:Nat->V
 |0=>.tup []
 |1=>.tup [.int 32768]
 |_=>.tup [.int 131072]
noncomputable def bitV:Nat->V
 |0=>.bool false
 |_=>.bool true
noncomputable def bitN:Nat->V
 |0=>.int 0
 |_=>.int 1
noncomputable def objOf:Nd->V
 | .box k sh sg o up a b c l=>.obj 412 [("kind",nat (2+k)),("width",.dimn c),("height",.dimn a),("depth",.dimn b),("items",.abs (.items l)),("shift",.int (32768 * ((sh:Int) - 1))),("sign",nat sg),("order",nat o),("ratio",.tup [nat (upOf up),.int 2])]
 | .cell sp m o a b c l=>.obj 708 [("width",.dimn c),("height",.dimn a),("depth",.dimn b),("items",.abs (.items l)),("spans",nat (sp+1)),("totals",.obj 312 [("natural",.int 0),("stretch",.lst (four o (32768 * (m:Int))) 4),("shrink",.lst (four 0 (32768 * ((m / 2:Nat):Int))) 4)]),("is_vertical",.bool false)]
 | .char i c=>.obj 371 [("font",.abs (.font i)),("code",nat (codeOf c))]
 | .lig i c l r=>.obj 391 [("font",.abs (.font i)),("code",nat (codeOf c)),("parts",.tup [.int 102,.int 0]),("left",bitV l),("right",bitV r)]
 | .mark n=>.obj 539 [("tokens",tokV n)]
 | .spec n=>.obj 623 [("octets",.byt [65+n,9])]
 | .write n=>.obj 644 [("stream",nat n),("tokens",tokV n)]
 | .oout n=>.obj 665 [("stream",nat n),("name",.str (wS "toc"))]
 | .cout n=>.obj 686 [("stream",nat n)]
 | .skip w g=>.obj 476 [("glue",.abs (.glu g)),("sort",nat (skipSort w)),("leader",.none)]
 | .lead s g l=>.obj 476 [("glue",.abs (.glu g)),("sort",nat (1+s)),("leader",.abs (.node l))]
 | .rule a b c=>.obj 433 [("width",ruleV c),("height",ruleV a),("depth",ruleV b)]
 | .kern n s=>.obj 454 [("width",.dimn n),("sort",nat s)]
 | .pen n=>.obj 497 [("value",.num n)]
 | .edge n on=>.obj 602 [("is_on",bitV on),("width",.int (32768 * n))]
 | .disc a b c=>.obj 518 [("pre",.abs (.items a)),("post",.abs (.items b)),("middle",.abs (.items c))]
 | .adj l=>.obj 581 [("items",.abs (.items l))]
 | .ins num size cost g l=>.obj 560 [("number",.oct num),("size",.dimn (Int.ofNat size)),("depth",.int 65536),("top",.abs (.glu g)),("cost",.num cost),("items",.abs (.items l))]
noncomputable def descV:Nd->V
 | .box k sh sg o up a b c l=>.tup [nat (2+k),.dimn c,.dimn a,.dimn b,.int (32768 * ((sh:Int) - 1)),nat sg,nat o,.tup [nat (upOf up),.int 2],.abs (.descs l)]
 | .cell sp m o a b c l=>.tup [.int 14,.dimn c,.dimn a,.dimn b,nat (sp+1),.int 0,.int 0,.tup (four o (32768 * (m:Int))),.tup (four 0 (32768 * ((m / 2:Nat):Int))),.abs (.descs l)]
 | .char i c=>.tup [.int 0,nat (i+1),nat (codeOf c)]
 | .lig i c l r=>.tup [.int 1,nat (i+1),nat (codeOf c),.tup [.int 102,.int 0],bitN l,bitN r]
 | .mark n=>.tup [.int 9,tokV n]
 | .spec n=>.tup [.int 13,.int 0,.tup [nat (65+n),.int 9]]
 | .write n=>.tup [.int 13,.int 1,nat n,tokV n]
 | .oout n=>.tup [.int 13,.int 2,nat n,.tup [.int 116,.int 111,.int 99]]
 | .cout n=>.tup [.int 13,.int 3,nat n]
 | .skip w g=>.tup [.int 6,.abs (.gparts g),nat (skipSort w),.tup []]
 | .lead s g l=>.tup [.int 6,.abs (.gparts g),nat (1+s),.abs (.desc l)]
 | .rule a b c=>.tup [.int 4,ruleT c,ruleT a,ruleT b]
 | .kern n s=>.tup [.int 5,.dimn n,nat s]
 | .pen n=>.tup [.int 7,.num n]
 | .edge n on=>.tup [.int 12,bitN on,.int (32768 * n)]
 | .disc a b c=>.tup [.int 8,.abs (.descs a),.abs (.descs b),.abs (.descs c)]
 | .adj l=>.tup [.int 11,.abs (.descs l)]
 | .ins num size cost g l=>.tup [.int 10,.oct num,.dimn (Int.ofNat size),.int 65536,.abs (.gparts g),.num cost,.abs (.descs l)]
noncomputable def listsL:List (Wd × List Nd)->List V
 |[]=>[]
 |p::r=>.tup [.str p.1,.abs (.parts p.2)]::listsL r
noncomputable def listsN:List (Wd × List Nd)->Nat
 |[]=>0
 |_::r=>listsN r+1
noncomputable def replV:Nd->V
 | .disc _ _ c=>.abs (.parts c)
 |_=>.lst [] 0
noncomputable def partV(nd:Nd):V:=.tup [objOf nd,.str (textOf nd),.lst (listsL (listsOf nd)) (listsN (listsOf nd)),replV nd]
noncomputable def den:Dom->V
 | .glu g=>gluV g
 | .flow u g=>.tup [gluV g,.str (gtxt u g)]
 | .gparts g=>gpartsV g
 | .font i=>fontV i
 | .node nd=>objOf nd
 | .part nd=>partV nd
 | .lists nd=>.lst (listsL (listsOf nd)) (listsN (listsOf nd))
 | .parts l=>.lst (l.map λnd=>.abs (.part nd)) l.length
 | .items l=>.lst (l.map λnd=>.abs (.node nd)) l.length
 | .rows l=>.lst (l.map λs=>.str [.h s s.length]) l.length
 | .desc nd=>descV nd
 | .descs l=>.tup (l.map λnd=>.abs (.desc nd))
 | .names=>.obj 819 [("most",.int 1048576),("numbers",.gl 1),("texts",.gl 2)]
 | .show_ d b=>.obj 898 [("fonts",.dct [(2,.str (wS "big"))]),("names",.abs .names),("code",.int 92),("escape",.str (wS "\\")),("depth",nat d),("breadth",nat b)]
 | .tools=>.tup [.lst [.tup [.abs (.font 0),.str (wS "fa")],.tup [.abs (.font 1),.str (wS "big")]] 2,.abs .names]
 | .lett nd=>objOf nd
 | .lpart nd=>partV nd
 | .sub _ d=>den d
noncomputable def isLetter:Nd->Bool
 | .char _ _=>true
 | .lig _ _ _ _=>true
 |_=>false
noncomputable def dok:Dom->Prop
 | .glu g=>((gtxtS [] g).length≤200∧(gtxtS (wS "mu") g).length≤200)∧gluOk g
 | .flow u g=>(gtxtS u g).length≤200∧((gtxtS [] g).length≤200∧(gtxtS (wS "mu") g).length≤200)∧gluOk g
 | .node nd=>(txt nd).length≤400
 | .part nd=>(txt nd).length≤400
 | .lett nd=>isLetter nd=true∧(txt nd).length≤400
 | .lpart nd=>isLetter nd=true∧(txt nd).length≤400
 | .parts l=>l.length≤100
 | .items l=>l.length≤100
 | .sub k d=>dok d∧DomWf k d
 |_=>True
noncomputable abbrev P2:=Nat × Nat
noncomputable def draw(p:P2)(k:Nat):Nat:=if p.1=0 then(7 * (p.2+1) * (p.2+1)+5 * (p.2+1)+3) % 101 % k else p.1 % k
noncomputable def next(p:P2)(k:Nat):P2:=(if p.1=0 then 0 else p.1 / k,p.2+1)
theorem c0e(p:P2){k:Nat}(h:0<k):draw p k<k:=by
 unfold draw
 split<;>exact Nat.mod_lt _ h
set_option genCtorIdx true in
inductive Dr where
 |v (k d:Nat)
 |n (n:Int)
 |flow (u:Wd) (g:Glu)
 |sizes (a b c:Int)
 |list (deep most:Nat) (l:List Nd)
 |box (deep:Nat) (nd:Nd)
 |cell (deep:Nat) (nd:Nd)
 |letter (nd:Nd)
 |done (nd:Nd)
 |skip (deep:Nat) (nd:Nd)
 |rule (nd:Nd)
 |small (way:Nat) (nd:Nd)
 |part (deep:Nat) (nd:Nd)
inductive Exp:Dr->List Dr->Prop
 |flow (u:Wd) (g:Glu):Exp (.flow u g) [.n g.w,.v 5 g.more,.v 4 g.first,.v 5 g.less,.v 4 g.second]
 |sizes (a b c:Int):Exp (.sizes a b c) [.n a,.n b,.n c]
 |list (deep most:Nat) (l:List Nd):Exp (.list deep most l) (.v (most+1) l.length::l.map (.part deep))
 |box (deep k sh sg o up:Nat) (a b c:Int) (l:List Nd):Exp (.box deep (.box k sh sg o up a b c l)) [.list deep 3 l,.sizes a b c,.v 2 k,.v 4 sh,.v 3 sg,.v 4 o,.v 5 up]
 |cell (deep sp m o:Nat) (a b c:Int) (l:List Nd):Exp (.cell deep (.cell sp m o a b c l)) [.list deep 2 l,.sizes a b c,.v 3 sp,.v 5 m,.v 4 o]
 |char (i c t:Nat):0<t->Exp (.letter (.char i c)) [.v 2 i,.v 6 c,.v 3 t]
 |lig (i c l r:Nat):Exp (.letter (.lig i c l r)) [.v 2 i,.v 6 c,.v 3 0,.v 2 l,.v 2 r]
 |mark (n:Nat):Exp (.done (.mark n)) [.v 5 0,.v 20 n]
 |spec (n:Nat):Exp (.done (.spec n)) [.v 5 1,.v 20 n]
 |write (n:Nat):Exp (.done (.write n)) [.v 5 2,.v 20 n]
 |oout (n:Nat):Exp (.done (.oout n)) [.v 5 3,.v 20 n]
 |cout (n:Nat):Exp (.done (.cout n)) [.v 5 4,.v 20 n]
 |skip (deep w:Nat) (g:Glu):w<6->Exp (.skip deep (.skip w g)) [.v 8 w,.flow (skipUnit w) g]
 |leadB (deep s:Nat) (g:Glu) (l:Nd):Exp (.skip (deep+1) (.lead s g l)) [.v 8 6,.flow [] g,.v 3 s,.box deep l]
 |leadR (deep s:Nat) (g:Glu) (l:Nd):Exp (.skip deep (.lead s g l)) [.v 8 7,.flow [] g,.v 3 s,.rule l]
 |rule (a b c:Nat):Exp (.rule (.rule a b c)) [.v 3 a,.v 3 b,.v 3 c]
 |kern (n:Int) (s:Nat):Exp (.small 0 (.kern n s)) [.n n,.v 4 s]
 |pen (n:Int) (s:Nat):Exp (.small 1 (.pen n)) [.n n,.v 4 s]
 |edge (n:Int) (s:Nat):Exp (.small 2 (.edge n (s / 2))) [.n n,.v 4 s]
 |pbox (deep w:Nat) (nd:Nd):w<3->Exp (.part (deep+1) nd) [.v 16 w,.box deep nd]
 |pcell (deep:Nat) (nd:Nd):Exp (.part (deep+1) nd) [.v 16 15,.cell deep nd]
 |pletter (deep w:Nat) (nd:Nd):(deep=0∧w<4)∨w=3->Exp (.part deep nd) [.v 16 w,.letter nd]
 |pkern (deep:Nat) (nd:Nd):Exp (.part deep nd) [.v 16 4,.small 0 nd]
 |ppen (deep:Nat) (nd:Nd):Exp (.part deep nd) [.v 16 5,.small 1 nd]
 |prule (deep:Nat) (nd:Nd):Exp (.part deep nd) [.v 16 6,.rule nd]
 |pdone (deep:Nat) (nd:Nd):Exp (.part deep nd) [.v 16 7,.done nd]
 |pedge (deep:Nat) (nd:Nd):Exp (.part deep nd) [.v 16 8,.small 2 nd]
 |pskip (deep w:Nat) (nd:Nd):9≤w∧w<12->Exp (.part (deep+1) nd) [.v 16 w,.skip (deep+1) nd]
 |pdisc (deep w:Nat) (a b c:List Nd):(deep=0∧9≤w∧w<13)∨w=12->Exp (.part deep (.disc a b c)) (.v 16 w::(.v 3 a.length::a.map .letter++(.v 3 b.length::b.map .letter++(.v 3 c.length::c.map .letter))))
 |padj0:Exp (.part 0 (.adj [])) [.v 16 13]
 |padj (deep:Nat) (l:List Nd):Exp (.part (deep+1) (.adj l)) [.v 16 13,.list deep 2 l]
 |pins0 (w num size:Nat) (cost:Int) (g:Glu):w=14∨w=15->Exp (.part 0 (.ins num size cost g [])) [.v 16 w,.flow [] g,.v 200 num,.v 9 size,.n cost]
 |pins (deep num size:Nat) (cost:Int) (g:Glu) (l:List Nd):Exp (.part (deep+1) (.ins num size cost g l)) [.v 16 14,.list deep 2 l,.flow [] g,.v 200 num,.v 9 size,.n cost]
inductive Fo:List Dr->P2->P2->Prop
 |nil (p:P2):Fo [] p p
 |v {k:Nat} {r:List Dr} {p q:P2}:Fo r (next p k) q->Fo (.v k (draw p k)::r) p q
 |n {r:List Dr} {p q:P2}:Fo r (next p 30) q->Fo (.n ((draw p 30:Int) - 9)::r) p q
 |exp {d:Dr} {l r:List Dr} {p q t:P2}:Exp d l->Fo l p t->Fo r t q->Fo (d::r) p q
theorem Fo.append{a b:List Dr}{p q t:P2}(h:Fo a p q)(k:Fo b q t):Fo (a++b) p t:=by
 induction h with
 |nil p=>exact k
 |v _ ih=>exact .v (ih k)
 |n _ ih=>exact .n (ih k)
 |exp e h1 _ _ ih=>exact .exp e h1 (ih k)
structure Cx where
 P:Program
 w:World
 K:Frag
 g:Nat->Addr
 n:Nat
 lp:Bool
noncomputable def Cx.G(X:Cx)(a:Addr):Prop:=∃k,k<X.n∧a=X.g k
noncomputable abbrev FH:=Addr->Option Obj
noncomputable def FH.le(f g:FH):Prop:=∀a o,f a=some o->g a=some o
noncomputable def FH.In(f:FH)(h:Heap):Prop:=∀a o,f a=some o->h.get? a=some o
noncomputable def FH.put(f:FH)(a:Addr)(o:Obj):FH:=λb=>if b=a then some o else f b
theorem FH.le.refl(f:FH):f.le f:=λx0 x0 e=>e
theorem FH.le.trans{f g k:FH}(a:f.le g)(b:g.le k):f.le k:=λx o e=>b x o (a x o e)
noncomputable abbrev tupOf(its:Array Value)(n:Nat):Obj:={cls:=.type "tuple",data:=.seq its n}
mutual
inductive VR(X:Cx)(f:FH):Value->V->Prop
 |none:VR X f .none .none
 |bool (b:Bool):VR X f (.bool b) (.bool b)
 |int (i:Int) (t:Tok):VR X f (.int i t) (.int i)
 |num (i:Int) (t:Tok): -9≤i->i≤20->VR X f (.int i t) (.num i)
 |dimn (i:Int) (t:Tok): -9≤i->i≤20->VR X f (.int (32768 * i) t) (.dimn i)
 |oct (n:Nat) (t:Tok):n<200->VR X f (.int (Int.ofNat n) t) (.oct n)
 |str (t:Tok) {w:Wd}:wok w->VR X f (.str (wden w) t) (.str w)
 |byt (l:List Nat) (b:Array UInt8) (t:Tok):b.toList.map UInt8.toNat=l->VR X f (.bytes b t) (.byt l)
 |con (v:Value):VR X f v (.con v)
 |tup {a:Addr} {vs:List Value} {l:List V}:f a=some (tupOf vs.toArray 0)->VRs X f vs l->VR X f (.ref a) (.tup l)
 |lst {a:Addr} {vs:List Value} {n:Nat} {l:List V}:f a=some (listOf vs.toArray n)->VRs X f vs l->∀{m:Nat},l.length≤m->VR X f (.ref a) (.lst l m)
 |obj {a d C:Addr} {es:List DictEntry} {n:Nat} {fs:List (Str × V)}:f a=some (instObj C d)->f d=some {cls:=.type "dict",data:=.dict es.toArray n}->VRd X f es fs->VR X f (.ref a) (.obj C fs)
 |dct {a:Addr} {o:Obj} {kvs:List (Int × Value)} {l:List (Int × V)}:f a=some o->o.IsDictOf (intKind X.P X.w) kvs->(a==sysModules)=false->VRi X f kvs l->VR X f (.ref a) (.dct l)
 |gl (k:Nat):k<X.n->VR X f (.ref (X.g k)) (.gl k)
 |rng {a:Addr} {n:Nat} {t u v:Tok}:f a=some {cls:=.type "range",data:=.fields #[.int 0 t,.int (Int.ofNat n) u,.int 1 v]}->VR X f (.ref a) (.rng n)
 |abs {v:Value} {d:Dom}:dok d->VR X f v (den d)->VR X f v (.abs d)
 |any (v:Value):VR X f v .any
inductive VRs(X:Cx)(f:FH):List Value->List V->Prop
 |nil:VRs X f [] []
 |cons {v:Value} {x:V} {vs:List Value} {xs:List V}:VR X f v x->VRs X f vs xs->VRs X f (v::vs) (x::xs)
inductive VRd(X:Cx)(f:FH):List DictEntry->List (Str × V)->Prop
 |nil:VRd X f [] []
 |cons {e:DictEntry} {k:Str} {t:Tok} {x:V} {es:List DictEntry} {xs:List (Str × V)}:e.key= .str k t->VR X f e.val x->VRd X f es xs->VRd X f (e::es) ((k,x)::xs)
inductive VRi(X:Cx)(f:FH):List (Int × Value)->List (Int × V)->Prop
 |nil:VRi X f [] []
 |cons {k:Int} {v:Value} {x:V} {es:List (Int × Value)} {xs:List (Int × V)}:VR X f v x->VRi X f es xs->VRi X f ((k,v)::es) ((k,x)::xs)
end
noncomputable def VI(X:Cx)(f:FH)(v:Value):V->Prop
 | .none=>v= .none
 | .bool b=>v= .bool b
 | .int i=>∃t,v= .int i t
 | .num i=>∃t,v= .int i t∧-9≤i∧i≤20
 | .dimn i=>∃t,v= .int (32768 * i) t∧-9≤i∧i≤20
 | .oct n=>∃t,v= .int (Int.ofNat n) t∧n<200
 | .str w=>∃t,v= .str (wden w) t∧wok w
 | .byt l=>∃b t,v= .bytes b t∧b.toList.map UInt8.toNat=l
 | .con c=>v=c
 | .tup l=>∃a vs,v= .ref a∧f a=some (tupOf vs.toArray 0)∧VRs X f vs l
 | .lst l m=>∃a vs n,v= .ref a∧f a=some (listOf vs.toArray n)∧VRs X f vs l∧l.length≤m
 | .obj C fs=>∃a d es n,v= .ref a∧f a=some (instObj C d)∧f d=some {cls:=.type "dict",data:=.dict (List.toArray es) n}∧VRd X f es fs
 | .dct l=>∃a o kvs,v= .ref a∧f a=some o∧o.IsDictOf (intKind X.P X.w) kvs∧(a==sysModules)=false∧VRi X f kvs l
 | .gl k=>v= .ref (X.g k)∧k<X.n
 | .rng n=>∃a t u w,v= .ref a∧f a=some {cls:=.type "range",data:=.fields #[.int 0 t,.int (Int.ofNat n) u,.int 1 w]}
 | .abs d=>dok d∧VR X f v (den d)
 | .any=>True
theorem VR.inv{X:Cx}{f:FH}{v:Value}{x:V}(h:VR X f v x):VI X f v x:=
 VR.casesOn (motive_1:=λv x x0=>VI X f v x) h rfl (λx0=>rfl) (λx0 t=>⟨t,rfl⟩) (λx0 t a b=>⟨t,rfl,a,b⟩) (λx0 t a b=>⟨t,rfl,a,b⟩) (λx0 t a=>⟨t,rfl,a⟩) (λt x0 a=>⟨t,rfl,a⟩) (λx0 b t a=>⟨b,t,rfl,a⟩) (λx0=>rfl) (λa b=>⟨_,_,rfl,a,b⟩) (λa b x0 c=>⟨_,_,_,rfl,a,b,c⟩) (λa b c=>⟨_,_,_,_,rfl,a,b,c⟩) (λa b c d=>⟨_,_,_,rfl,a,b,c,d⟩) (λx0 a=>⟨rfl,a⟩) (λa=>⟨_,_,_,_,rfl,a⟩) (λa b=>⟨a,b⟩) (λx0=>trivial)
section
variable {X:Cx} {f:FH}
theorem VR.eNone{motive:∀v,VR X f v .none->Prop}(none:motive .none .none){v:Value}(h:VR X f v .none):motive v h:=by
 cases(show v=_ from h.inv);exact none
theorem VR.eBool{b:Bool}{motive:∀v,VR X f v (.bool b)->Prop}(bool:motive (.bool b) (.bool b)){v:Value}(h:VR X f v (.bool b)):motive v h:=by
 cases(show v=_ from h.inv);exact bool
theorem VR.eInt{i:Int}{motive:∀v,VR X f v (.int i)->Prop}(int:∀t,motive (.int i t) (.int i t)){v:Value}(h:VR X f v (.int i)):motive v h:=by
 obtain⟨t,rfl⟩:=h.inv;exact int t
theorem VR.eNum{i:Int}{motive:∀v,VR X f v (.num i)->Prop}(num:∀t a b,motive (.int i t) (.num i t a b)){v:Value}(h:VR X f v (.num i)):motive v h:=by
 obtain⟨t,rfl,a,b⟩:=h.inv;exact num t a b
theorem VR.eDimn{i:Int}{motive:∀v,VR X f v (.dimn i)->Prop}(dimn:∀t a b,motive (.int (32768 * i) t) (.dimn i t a b)){v:Value}(h:VR X f v (.dimn i)):motive v h:=by
 obtain⟨t,rfl,a,b⟩:=h.inv;exact dimn t a b
theorem VR.eOct{n:Nat}{motive:∀v,VR X f v (.oct n)->Prop}(oct:∀t a,motive (.int (Int.ofNat n) t) (.oct n t a)){v:Value}(h:VR X f v (.oct n)):motive v h:=by
 obtain⟨t,rfl,a⟩:=h.inv;exact oct t a
theorem VR.eStr{w:Wd}{motive:∀v,VR X f v (.str w)->Prop}(str:∀t a,motive (.str (wden w) t) (.str t a)){v:Value}(h:VR X f v (.str w)):motive v h:=by
 obtain⟨t,rfl,a⟩:=h.inv;exact str t a
theorem VR.eByt{l:List Nat}{motive:∀v,VR X f v (.byt l)->Prop}(byt:∀b t a,motive (.bytes b t) (.byt l b t a)){v:Value}(h:VR X f v (.byt l)):motive v h:=by
 obtain⟨b,t,rfl,a⟩:=h.inv;exact byt b t a
theorem VR.eCon{c:Value}{motive:∀v,VR X f v (.con c)->Prop}(con:motive c (.con c)){v:Value}(h:VR X f v (.con c)):motive v h:=by
 cases(show v=_ from h.inv);exact con
theorem VR.eTup{l:List V}{motive:∀v,VR X f v (.tup l)->Prop}(tup:∀{a:Addr}{vs:List Value}(fv:f a=some (tupOf vs.toArray 0))(rv:VRs X f vs l),motive (.ref a) (.tup fv rv)){v:Value}(h:VR X f v (.tup l)):motive v h:=by
 obtain⟨a,vs,rfl,fv,rv⟩:=h.inv;exact tup fv rv
theorem VR.eLst{l:List V}{m:Nat}{motive:∀v,VR X f v (.lst l m)->Prop}(lst:∀{a:Addr}{vs:List Value}{n:Nat}(fv:f a=some (listOf vs.toArray n))(rv:VRs X f vs l)(hn:l.length≤m),motive (.ref a) (.lst fv rv hn)){v:Value}(h:VR X f v (.lst l m)):motive v h:=by
 obtain⟨a,vs,n,rfl,fv,rv,hn⟩:=h.inv;exact lst fv rv hn
theorem VR.eObj{C:Addr}{fs:List (Str × V)}{motive:∀v,VR X f v (.obj C fs)->Prop}(obj:∀{a d:Addr}{es:List DictEntry}{n:Nat}(e1:f a=some (instObj C d))(e2:f d=some {cls:=.type "dict",data:=.dict es.toArray n})(rv:VRd X f es fs),motive (.ref a) (.obj e1 e2 rv)){v:Value}(h:VR X f v (.obj C fs)):motive v h:=by
 obtain⟨a,d,es,n,rfl,e1,e2,rv⟩:=h.inv;exact obj e1 e2 rv
theorem VR.eDct{l:List (Int × V)}{motive:∀v,VR X f v (.dct l)->Prop}(dct:∀{a:Addr}{o:Obj}{kvs:List (Int × Value)}(e1:f a=some o)(e2:o.IsDictOf (intKind X.P X.w) kvs)(e3:(a==sysModules)=false)(rv:VRi X f kvs l),motive (.ref a) (.dct e1 e2 e3 rv)){v:Value}(h:VR X f v (.dct l)):motive v h:=by
 obtain⟨a,o,kvs,rfl,e1,e2,e3,rv⟩:=h.inv;exact dct e1 e2 e3 rv
theorem VR.eGl{k:Nat}{motive:∀v,VR X f v (.gl k)->Prop}(gl:∀hk:k<X.n,motive (.ref (X.g k)) (.gl k hk)){v:Value}(h:VR X f v (.gl k)):motive v h:=by
 obtain⟨rfl,a⟩:=h.inv;exact gl a
theorem VR.eRng{n:Nat}{motive:∀v,VR X f v (.rng n)->Prop}(rng:∀{a:Addr}{t u w:Tok}(fv:f a=some {cls:=.type "range",data:=.fields #[.int 0 t,.int (Int.ofNat n) u,.int 1 w]}),motive (.ref a) (.rng fv)){v:Value}(h:VR X f v (.rng n)):motive v h:=by
 obtain⟨a,t,u,w,rfl,fv⟩:=h.inv;exact rng fv
theorem VR.eAbs{d:Dom}{motive:∀v,VR X f v (.abs d)->Prop}(abs:∀{v:Value}(k:dok d)(h:VR X f v (den d)),motive v (.abs k h)){v:Value}(h:VR X f v (.abs d)):motive v h:=
 abs h.inv.1 h.inv.2
end
section
variable {X:Cx}
theorem VR.mono{f g:FH}(h:f.le g){v:Value}{x:V}(hv:VR X f v x):VR X g v x:=
 VR.rec (motive_1:=λv x x0=>VR X g v x) (motive_2:=λv x x0=>VRs X g v x) (motive_3:=λv x x0=>VRd X g v x) (motive_4:=λv x x0=>VRi X g v x)
  (.none) (λb=>.bool b) (λi t=>.int i t) (λi t a b=>.num i t a b) (λi t a b=>.dimn i t a b) (λn t a=>.oct n t a) (λt x0 hh=>.str t hh) (λl b t e=>.byt l b t e) (λv=>.con v) (λa x0 d=>.tup (h _ _ a) d) (λa x0 x0 e d=>.lst (h _ _ a) d e) (λa b x0 c=>.obj (h _ _ a) (h _ _ b) c) (λa b c x0 d=>.dct (h _ _ a) b c d) (λk a=>.gl k a) (λa=>.rng (h _ _ a)) (λk x0 a=>.abs k a) (λv=>.any v) .nil (λx0 x0 a b=>.cons a b) .nil (λk x0 x0 a b=>.cons k a b) .nil (λx0 x0 a b=>.cons a b) hv
theorem VRs.mono{f g:FH}(h:f.le g){v:List Value}{x:List V}(hv:VRs X f v x):VRs X g v x:=
 VRs.rec (motive_1:=λv x x0=>VR X g v x) (motive_2:=λv x x0=>VRs X g v x) (motive_3:=λv x x0=>VRd X g v x) (motive_4:=λv x x0=>VRi X g v x)
  (.none) (λb=>.bool b) (λi t=>.int i t) (λi t a b=>.num i t a b) (λi t a b=>.dimn i t a b) (λn t a=>.oct n t a) (λt x0 hh=>.str t hh) (λl b t e=>.byt l b t e) (λv=>.con v) (λa x0 d=>.tup (h _ _ a) d) (λa x0 x0 e d=>.lst (h _ _ a) d e) (λa b x0 c=>.obj (h _ _ a) (h _ _ b) c) (λa b c x0 d=>.dct (h _ _ a) b c d) (λk a=>.gl k a) (λa=>.rng (h _ _ a)) (λk x0 a=>.abs k a) (λv=>.any v) .nil (λx0 x0 a b=>.cons a b) .nil (λk x0 x0 a b=>.cons k a b) .nil (λx0 x0 a b=>.cons a b) hv
theorem VRd.mono{f g:FH}(h:f.le g){v:List DictEntry}{x:List (Str × V)}(hv:VRd X f v x):VRd X g v x:=
 VRd.rec (motive_1:=λv x x0=>VR X g v x) (motive_2:=λv x x0=>VRs X g v x) (motive_3:=λv x x0=>VRd X g v x) (motive_4:=λv x x0=>VRi X g v x)
  (.none) (λb=>.bool b) (λi t=>.int i t) (λi t a b=>.num i t a b) (λi t a b=>.dimn i t a b) (λn t a=>.oct n t a) (λt x0 hh=>.str t hh) (λl b t e=>.byt l b t e) (λv=>.con v) (λa x0 d=>.tup (h _ _ a) d) (λa x0 x0 e d=>.lst (h _ _ a) d e) (λa b x0 c=>.obj (h _ _ a) (h _ _ b) c) (λa b c x0 d=>.dct (h _ _ a) b c d) (λk a=>.gl k a) (λa=>.rng (h _ _ a)) (λk x0 a=>.abs k a) (λv=>.any v) .nil (λx0 x0 a b=>.cons a b) .nil (λk x0 x0 a b=>.cons k a b) .nil (λx0 x0 a b=>.cons a b) hv
theorem VRs.ind{f:FH}{motive:List Value->List V->Prop}(nil:motive [] [])(cons:∀{v:Value}{x:V}{vs:List Value}{xs:List V},VR X f v x->VRs X f vs xs->motive vs xs->motive (v::vs) (x::xs)){vs:List Value}{l:List V}(h:VRs X f vs l):motive vs l:=by
 induction l generalizing vs with
 |nil=>cases h;exact nil
 |cons x l ih=>
  cases h with
  |cons a b=>exact cons a b (ih b)
theorem VRd.ind{f:FH}{motive:List DictEntry->List (Str × V)->Prop}(nil:motive [] [])(cons:∀{e:DictEntry}{k:Str}{t:Tok}{x:V}{es:List DictEntry}{xs:List (Str × V)},e.key= .str k t->VR X f e.val x->VRd X f es xs->motive es xs->motive (e::es) ((k,x)::xs)){es:List DictEntry}{l:List (Str × V)}(h:VRd X f es l):motive es l:=by
 induction l generalizing es with
 |nil=>cases h;exact nil
 |cons x l ih=>
  cases h with
  |cons a b c=>exact cons a b c (ih c)
theorem VRi.ind{f:FH}{motive:List (Int × Value)->List (Int × V)->Prop}(nil:motive [] [])(cons:∀{k:Int}{v:Value}{x:V}{es:List (Int × Value)}{xs:List (Int × V)},VR X f v x->VRi X f es xs->motive es xs->motive ((k,v)::es) ((k,x)::xs)){es:List (Int × Value)}{l:List (Int × V)}(h:VRi X f es l):motive es l:=by
 induction l generalizing es with
 |nil=>cases h;exact nil
 |cons x l ih=>
  cases h with
  |cons a b=>exact cons a b (ih b)
theorem VRs.length{f:FH}{vs:List Value}{l:List V}(h:VRs X f vs l):vs.length=l.length:=
 h.ind (motive:=λvs l=>vs.length=l.length) rfl λx0 x0 ih=>congrArg Nat.succ ih
theorem VRs.append{f:FH}{vs ws:List Value}{l k:List V}(h:VRs X f vs l)(h':VRs X f ws k):VRs X f (vs++ws) (l++k):=
 h.ind (motive:=λvs l=>VRs X f (vs++ws) (l++k)) h' λa x0 ih=>.cons a ih
theorem VRs.get{f:FH}{vs:List Value}{l:List V}{i:Nat}{x:V}(h:VRs X f vs l):l[i]? =some x->∃v,vs[i]? =some v∧VR X f v x:=
 h.ind (motive:=λvs l=>∀i,l[i]? =some x->∃v,vs[i]? =some v∧VR X f v x) (λx0 e=>absurd e.symm (Option.some_ne_none x)) (λa x0 ih i=>Nat.casesOn i (λe=>⟨_,rfl,Option.some.inj e▸a⟩) λi=>ih i) i
theorem VRs.take{f:FH}{vs:List Value}{l:List V}(n:Nat)(h:VRs X f vs l):VRs X f (vs.take n) (l.take n):=
 h.ind (motive:=λvs l=>∀n,VRs X f (vs.take n) (l.take n)) (λn=>by rw[List.take_nil,List.take_nil];exact .nil) (λa x0 ih n=>Nat.casesOn n .nil λn=>.cons a (ih n)) n
theorem VRs.one{f:FH}{v:Value}{x:V}(h:VR X f v x):VRs X f [v] [x]:=.cons h .nil
end
structure Gs where
 ds:List Dr
 e:P2
 nb:Bool
 md:Nat
noncomputable def nameEntries:Bool->List (Str × Int)
 |false=>[("x",0)]
 |true=>[("x",0),("ab",1)]
noncomputable def nameTexts:Bool->List Str
 |false=>["x"]
 |true=>["x","ab"]
noncomputable def namesOf(md:Nat)(b:Bool):Option (List (Str × Int) × List Str):=match md with
 |0=>some (nameEntries b,nameTexts b)
 |2=>some ([],[])
 |3=>some ([("x",0)],[])
 |4=>some ([("x",0),("ab",1)],["x"])
 |_=>none
inductive IntVals:List (Str × Value)->List (Str × Int)->Prop
 |nil:IntVals [] []
 |cons (x:Str) (i:Int) (t:Tok) {a:List (Str × Value)} {b:List (Str × Int)}:IntVals a b->IntVals ((x,.int i t)::a) ((x,i)::b)
inductive StrVals:List Value->List Str->Prop
 |nil:StrVals [] []
 |cons (x:Str) (t:Tok) {a:List Value} {b:List Str}:StrVals a b->StrVals (.str x t::a) (x::b)
structure Inv(X:Cx)(σ:Gs)(h:Heap):Prop where
 heap:∃(p:P2)(t u:Tok),(0<X.n->h.IsList (X.g 0) #[.int (Int.ofNat p.1) t,.int (Int.ofNat p.2) u])∧Fo σ.ds p σ.e
 live:∀k,k<X.n->∃o,h.get? (X.g k)=some o
 gs:∀k,k<X.n->X.g k≠cStatics
 bnd:σ.e.2<1048576
 names:∀D T,namesOf σ.md σ.nb=some (D,T)->(X.g 0≠X.g 1∧X.g 0≠X.g 2∧X.g 1≠X.g 2∧2<X.n)∧(∃kvs,h.DictOf (strKind X.P X.w) (X.g 1) kvs∧(X.g 1==sysModules)=false∧IntVals kvs D)∧∃vs n,h.get? (X.g 2)=some (listOf (List.toArray vs) n)∧StrVals vs T
theorem d0j{h h':Heap}{a:Addr}{its:Array Value}(L:h.IsList a its)(k:∀o,h.get? a=some o->h'.get? a=some o):h'.IsList a its:=by
 obtain⟨o,e,r⟩:=L;exact⟨o,k o e,r⟩
theorem d0m{prog:Program}{w:World}{h h':Heap}{a:Addr}{kvs:List (Str × Value)}(L:h.DictOf (strKind prog w) a kvs)(k:∀o,h.get? a=some o->h'.get? a=some o):h'.DictOf (strKind prog w) a kvs:=by
 obtain⟨o,es,ep,e,r⟩:=L;exact⟨o,es,ep,k o e,r⟩
theorem Inv.same{X:Cx}{σ:Gs}{h h':Heap}(I:Inv X σ h)(k:∀b o,X.G b->h.get? b=some o->h'.get? b=some o):Inv X σ h':=by
 obtain⟨⟨p,t,u,e1,e1'⟩,l,g,bb,n⟩:=I
 refine⟨⟨p,t,u,λhn=>d0j (e1 hn) λo e=>k _ _ ⟨0,hn,rfl⟩ e,e1'⟩,λj hj=> ?_,g,bb,λD T hm=> ?_⟩
 ·obtain⟨o,e⟩:=l j hj
  exact⟨o,k _ _ ⟨j,hj,rfl⟩ e⟩
 ·obtain⟨ap,⟨kvs,d1,d2⟩,vs,m,t1,t2⟩:=n D T hm
  exact⟨ap,⟨kvs,d0m d1 λo e=>k _ _ ⟨1,by have:=ap.2.2.2;lia,rfl⟩ e,d2⟩,vs,m,k _ _ ⟨2,ap.2.2.2,rfl⟩ t1,t2⟩
structure St(X:Cx)(f:FH)(σ:Gs)(h:Heap):Prop where
 base:∀a o,X.K.lookup a=some o->f a=some o
 isIn:f.In h
 inv:Inv X σ h
 off:∀a,X.G a->f a=none
 nolim:h.NoLimit
theorem St.kin{X:Cx}{f:FH}{σ:Gs}{h:Heap}(S:St X f σ h):X.K.In h:=λa o e=>S.isIn _ _ (S.base _ _ e)
structure Kp(X:Cx)(f:FH)(h:Heap)(f':FH)(h':Heap):Prop where
 keep:∀b o,h.get? b=some o->¬X.G b->h'.get? b=some o
 le:f.le f'
 new:∀b o,f' b=some o->f b=some o∨(h.get? b=none∧¬X.G b)
theorem Kp.refl{X:Cx}{f:FH}{h:Heap}:Kp X f h f h:=⟨λx0 x0 e x0=>e,FH.le.refl f,λx0 x0 e=>.inl e⟩
theorem Kp.trans{X:Cx}{f g k:FH}{h i j:Heap}(a:Kp X f h g i)(b:Kp X g i k j):Kp X f h k j:=
 ⟨λx o e n=>b.keep x o (a.keep x o e n) n,a.le.trans b.le,λx o e=>(b.new x o e).elim (λe=>a.new x o e) λe=>.inr ⟨by
  cases q:h.get? x with
  |none=>rfl
  |some o'=>exact absurd ((a.keep x o' q e.2).symm.trans e.1) (by simp),e.2⟩⟩
theorem Kp.push{X:Cx}{f:FH}{h:Heap}(o:Obj):Kp X f h f (h.push o):=⟨λx0 x0 e x0=>Heap.get?_push_of_some _ e,FH.le.refl f,λx0 x0 e=>.inl e⟩
theorem FH.put_le{f:FH}{h:Heap}(hi:f.In h)(o:Obj):f.le (f.put h.objs.size o):=λa x e=>by
 unfold FH.put
 rw[if_neg (Nat.ne_of_lt (Heap.lt_size (hi a x e)))];exact e
theorem FH.put_self(f:FH)(a:Addr)(o:Obj):f.put a o a=some o:=by unfold FH.put;rw[if_pos rfl]
theorem St.push{X:Cx}{f:FH}{σ:Gs}{h:Heap}(S:St X f σ h){o:Obj}:St X f σ (h.push o):=
 ⟨S.base,λa x e=>Heap.get?_push_of_some _ (S.isIn a x e),S.inv.same λx0 x0 x0 e=>Heap.get?_push_of_some _ e,S.off,S.nolim.keeps λx0 x0 e=>Heap.get?_push_of_some _ e⟩
theorem Inv.lt{X:Cx}{σ:Gs}{h:Heap}(I:Inv X σ h):∀a,X.G a->a<h.objs.size:=by
 rintro a ⟨k,hk,rfl⟩
 obtain⟨o,e⟩:=I.live k hk
 exact Heap.lt_size e
theorem St.alloc{X:Cx}{f:FH}{σ:Gs}{h:Heap}(S:St X f σ h){o:Obj}(hf:o.isFreed=false):
  St X (f.put h.objs.size o) σ (h.push o)∧Kp X f h (f.put h.objs.size o) (h.push o):=by
 have le:=FH.put_le S.isIn o
 refine⟨⟨λa x e=>le _ _ (S.base a x e),λa x e=> ?_,S.push.inv,λa ha=> ?_,S.push.nolim⟩,(Kp.push (X:=X) (f:=f) o).keep,le,λb x e=> ?_⟩
 ·unfold FH.put at e
  split at e
  ·rename_i q;cases e;rw[q];exact Heap.get?_push_size _ hf
  ·exact Heap.get?_push_of_some _ (S.isIn a x e)
 ·unfold FH.put
  rw[if_neg (Nat.ne_of_lt (S.inv.lt a ha))];exact S.off a ha
 ·unfold FH.put at e
  split at e
  ·rename_i q;exact .inr ⟨Heap.get?_none_of_le (Nat.le_of_eq q.symm),λhg=>Nat.ne_of_lt (S.inv.lt _ hg) q⟩
  ·exact .inl e
noncomputable def Le(x y:V):Prop:=∀(X:Cx)(f:FH)(v:Value),VR X f v x->VR X f v y
theorem Le.refl(x:V):Le x x:=λx0 x0 x0 h=>h
theorem Le.trans{x y z:V}(a:Le x y)(b:Le y z):Le x z:=λX f v h=>b X f v (a X f v h)
end
section
noncomputable def valO{α:Type}{P:α->Prop}(o:Option {z:α // P z}):Option α:=@Option.rec _ (λ_=>Option α) none (λz=>some z.1) o
theorem a0t{α:Type}{P:α->Prop}:∀{o:Option {z:α // P z}}{z:α},valO o=some z->P z
 |some y,_,e=>Option.some.inj e▸y.2
noncomputable def onT{β:Type}(b:Bool)(k:b=true->Option β):Option β:=@Bool.rec (λb=>(b=true->Option β)->Option β) (λ_=>none) (λk=>k rfl) b k
noncomputable def onF{β:Type}(b:Bool)(k:b=true->Option β)(k':b=false->Option β):Option β:=@Bool.rec (λb=>(b=true->Option β)->(b=false->Option β)->Option β) (λ_ k=>k rfl) (λk _=>k rfl) b k k'
noncomputable def onS{α β:Type}(o:Option α)(k:(x:α)->o=some x->Option β):Option β:=@Option.rec α (λo=>((x:α)->o=some x->Option β)->Option β) (λ_=>none) (λx k=>k x rfl) o k
noncomputable def onPr{α γ β:Type}(o:Option (α × γ))(k:(x:α)->(y:γ)->o=some (x,y)->Option β):Option β:=@Option.rec (α × γ) (λo=>((x:α)->(y:γ)->o=some (x,y)->Option β)->Option β) (λ_=>none) (λp=>@Prod.rec α γ (λp=>((x:α)->(y:γ)->some p=some (x,y)->Option β)->Option β) (λx y k=>k x y rfl) p) o k
noncomputable def onE{α β:Type}(o:Option α)(k:(x:α)->o=some x->Option β)(k':o=none->Option β):Option β:=@Option.rec α (λo=>((x:α)->o=some x->Option β)->(o=none->Option β)->Option β) (λ_ k=>k rfl) (λx k _=>k x rfl) o k k'
noncomputable def onP{α β:Type}{P:α->Prop}(o:Option {z:α // P z})(k:(z:α)->P z->Option β):Option β:=@Option.rec _ (λ_=>Option β) none (λz=>k z.1 z.2) o
noncomputable def mapP{α:Type}{P Q:α->Prop}(h:∀z,P z->Q z):Option {z:α // P z}->Option {z:α // Q z}
 |some z=>some ⟨z.1,h z.1 z.2⟩
 |none=>none
theorem v0g{α:Type}{P Q:α->Prop}{h:∀z,P z->Q z}:∀{o:Option {z:α // P z}}{z:α},valO (mapP h o)=some z->valO o=some z
 |some _,_,e=>e
theorem t0c{β:Type}{b:Bool}{k:b=true->Option β}(h:b=true):onT b k=k h:=by subst h;rfl
theorem onF_n{β:Type}{b:Bool}{k:b=true->Option β}{k':b=false->Option β}(h:b=false):onF b k k'=k' h:=by subst h;rfl
theorem d1o{α β:Type}{o:Option α}{k:∀x,o=some x->Option β}{x:α}(h:o=some x):onS o k=k x h:=by subst h;rfl
theorem l0k{α β:Type}{P:α->Prop}:∀{o:Option {z:α // P z}}{z:α},valO o=some z->∀k:((z:α)->P z->Option β),∃h,onP o k=k z h
 |some w,_,e,k=>by cases Option.some.inj e;exact⟨w.2,rfl⟩
noncomputable abbrev Ok(p:Prop):=Option {_u:Unit // p}
noncomputable def okO{p:Prop}:Ok p->Bool
 |some _=>true
 |none=>false
theorem c0c{p:Prop}:∀{o:Ok p},okO o=true->p
 |some h,_=>h.2
noncomputable def okY{p:Prop}(h:p):Ok p:=some ⟨(),h⟩
noncomputable def nilK{α:Type}:(l:List α)->Ok (l=[])
 |[]=>some ⟨(),rfl⟩
 |_::_=>none
noncomputable def nnK{α:Type}:(o:Option (Option α))->Ok (o=some none)
 |some none=>some ⟨(),rfl⟩
 |_=>none
noncomputable def allK{α:Type}{p:α->Prop}(c:∀x,Ok (p x)):(l:List α)->Ok (∀x∈l,p x)
 |[]=>some ⟨(),λx h=>nomatch h⟩
 |x::r=>onP (c x) λx0 h=>onP (allK c r) λx0 h'=>some ⟨(),λy hy=>(List.mem_cons.mp hy).elim (λq=>q▸h) (h' y)⟩
theorem a0u{α:Type}{P:α->Prop}:∀p∈([]:List α),P p:=nofun
theorem a0m{α:Type}{P:α->Prop}{a:α}{l:List α}(h:P a)(t:∀p∈l,P p):∀p∈a::l,P p:=λp hp=>(List.mem_cons.mp hp).elim (λe=>e▸h) (t p)
noncomputable def mapR{α β:Type}(f:α->β):List α->List β
 |[]=>[]
 |a::l=>f a::mapR f l
theorem a0a{α β:Type}{f g:α->β}:∀{l:List α},l.map f=mapR g l->∀x∈l,f x=g x
 |_::_,h,_,.head _=>(List.cons.inj h).1
 |_::_,h,x,.tail _ hm=>a0a (List.cons.inj h).2 x hm
theorem b0i{α:Type}{x y:Option α}(H:∀o,x=some o->y=some o)(e:y=none):x=none:=Option.eq_none_iff_forall_ne_some.mpr λo q=>Option.some_ne_none _ ((H o q).symm.trans e)
end
section
open PySem PySem.Spec PySem.Calls PyProof.Rows PySem.W
noncomputable abbrev Cx.M(X:Cx):Model:=model X.P X.w
noncomputable def TrG(X:Cx)(A:Around){α:Type}(t:Sem α)(f:FH)(σ:Gs)(s:Shared)(R:FH->α->Prop)(σ':Gs):Prop:=
 ∀(Q:α->Shared->Prop)(E:Value->Shared->Prop),(∀a f' h' t',Kp X f s.heap f' h'->St X f' σ' h'->R f' a->Q a {s with heap:=h',toks:=t'})->wpAny X.M A t Q E s
noncomputable abbrev Tr(X:Cx)(A:Around)(t:Sem Value)(f:FH)(σ:Gs)(s:Shared)(x:V)(σ':Gs):Prop:=TrG X A t f σ s (λf' v=>VR X f' v x) σ'
noncomputable abbrev TrB(X:Cx)(A:Around)(t:Sem Bool)(f:FH)(σ:Gs)(s:Shared)(b:Bool)(σ':Gs):Prop:=TrG X A t f σ s (λx0 c=>c=b) σ'
noncomputable abbrev TrL(X:Cx)(A:Around)(t:Sem (List Value))(f:FH)(σ:Gs)(s:Shared)(xs:List V)(σ':Gs):Prop:=TrG X A t f σ s (λf' vs=>VRs X f' vs xs) σ'
section
variable {X:Cx} {A:Around} {f:FH} {σ σ₁ σ₂:Gs} {s:Shared}
theorem TrG.mono{α:Type}{t:Sem α}{R R':FH->α->Prop}(h:TrG X A t f σ s R σ₁)(m:∀f a,R f a->R' f a):TrG X A t f σ s R' σ₁:=
 λQ E hQ=>h Q E λa f' h' t' K S r=>hQ a f' h' t' K S (m _ _ r)
noncomputable def V.toInt? :V->Option Int
 | .int i=>some i
 | .num i=>some i
 | .dimn i=>some (32768 * i)
 | .oct n=>some (Int.ofNat n)
 |_=>Option.none
theorem VR.toInt{f:FH}{v:Value}{x:V}{i:Int}(h:VR X f v x)(e:x.toInt? =some i):∃t,v= .int i t:=by
 cases h<;>simp[V.toInt?] at e<;>(subst e;exact⟨_,rfl⟩)
noncomputable def V.small(x:V)(i:Int):Bool:=match x with
 | .num _=>true
 | .dimn _=>true
 | .oct _=>true
 |_=>decide (i.natAbs<2 ^ 31)
theorem d0g{i:Int}(h:i.natAbs<2 ^ 31):Builtin.Int.intBits i≤64:=by
 unfold Builtin.Int.intBits
 split
 ·lia
 ·have:i.natAbs.log2<31:=by
   by_cases h0:i.natAbs=0
   ·rw[h0];decide
   ·exact(Nat.log2_lt h0).mpr h
  lia
theorem VR.small{f:FH}{v:Value}{x:V}{i:Int}(h:VR X f v x)(e:x.toInt? =some i)(hs:x.small i=true):i.natAbs<2 ^ 31:=by
 cases h<;>simp[V.toInt?] at e<;>subst e<;>first|lia|exact of_decide_eq_true hs|(simp;lia)
noncomputable def ieq(i j:Int):Bool:=decide (i=j)
end
section
variable {X:Cx} {A:Around} {f:FH} {σ σ₁ σ₂:Gs} {s:Shared}
theorem here(S:St X f σ s.heap){Q:Value->Shared->Prop}{x:V}(hQ:∀a f' h' t',Kp X f s.heap f' h'->St X f' σ h'->VR X f' a x->Q a {s with heap:=h',toks:=t'}){v:Value}{t:Nat}(r:VR X f v x):Q v {s with toks:=t}:=
 hQ v f s.heap t Kp.refl S r
theorem here'(S:St X f σ s.heap){Q:Value->Shared->Prop}{x:V}(hQ:∀a f' h' t',Kp X f s.heap f' h'->St X f' σ h'->VR X f' a x->Q a {s with heap:=h',toks:=t'}){v:Value}(r:VR X f v x):Q v s:=
 hQ v f s.heap s.toks Kp.refl S r
theorem made(S:St X f σ s.heap){Q:Value->Shared->Prop}{x:V}(hQ:∀a f' h' t',Kp X f s.heap f' h'->St X f' σ h'->VR X f' a x->Q a {s with heap:=h',toks:=t'}){o:Obj}{t:Nat}(hf:o.isFreed=false)
  (r:∀f':FH,f.le f'->f' s.heap.objs.size=some o->VR X f' (.ref s.heap.objs.size) x):Q (.ref s.heap.objs.size) {s with heap:=s.heap.push o,toks:=t}:=
 have z:=S.alloc hf
 hQ _ _ _ t z.2 z.1 (r _ z.2.le (FH.put_self ..))
theorem St.list{h:Heap}(S:St X f σ h){a:Addr}{vs:List Value}{n:Nat}(e:f a=some (listOf vs.toArray n)):h.IsList a vs.toArray:=⟨_,S.isIn _ _ e,rfl,n,rfl⟩
theorem St.tup{h:Heap}(S:St X f σ h){a:Addr}{vs:List Value}{n:Nat}(e:f a=some (tupOf vs.toArray n)):IsTup h a vs.toArray:=⟨_,S.isIn _ _ e,rfl,n,rfl⟩
theorem line24:sizeLine=2 ^ 24:=rfl
theorem a0j{i j:Int}(h:ieq i j=true):i=j:=of_decide_eq_true h
theorem f0t{i j:Int}(h:ieq i j=false):i≠j:=of_decide_eq_false h
noncomputable def BinOK(op:Operator)(x y z:V):Prop:=∀(X:Cx)(A:Around)(f:FH)(σ:Gs)(s:Shared)(v w:Value),St X f σ s.heap->VR X f v x->VR X f w y->Tr X A (binaryOp op v w) f σ s z σ
noncomputable abbrev BinR(op:Operator)(x y:V):=Option {z:V // BinOK op x y z}
theorem BinOK.ints{op:Operator}{x y z:V}{i j:Int}(hi:x.toInt? =some i)(hj:y.toInt? =some j)(H:∀{X:Cx}{A:Around}{f:FH}{σ:Gs}{s:Shared}{t u:Tok},St X f σ s.heap->VR X f (.int i t) x->VR X f (.int j u) y->Tr X A (binaryOp op (.int i t) (.int j u)) f σ s z σ):BinOK op x y z:=λx0 x0 x0 x0 x0 x0 x0 S hv hw=>by
 obtain⟨t,rfl⟩:=hv.toInt hi
 obtain⟨u,rfl⟩:=hw.toInt hj
 exact @H _ _ _ _ _ t u S hv hw
noncomputable def binIP(op:Operator)(x y:V)(i j:Int)(hi:x.toInt? =some i)(hj:y.toInt? =some j):BinR op x y:=match op with
 | .Add=>some ⟨.int (i+j),.ints hi hj λS x0 x0 Q E hQ=>add_int (here S hQ (.int _ _))⟩
 | .Sub=>some ⟨.int (i - j),.ints hi hj λS x0 x0 Q E hQ=>sub_int (here S hQ (.int _ _))⟩
 | .Mult=>onT (x.small i||y.small j) λh=>some ⟨.int (i * j),.ints hi hj λS hv hw Q E hQ=>mul_int (here S hQ (.int _ _)) ((Bool.or_eq_true_iff.mp h).elim (λh=>.of_left (d0g (hv.small hi h))) λh=>.of_right (d0g (hw.small hj h)))⟩
 | .FloorDiv=>onF (ieq j 0) (λx0=>none) λh0=>onT (decide (j.natAbs<1073741824)) λh1=>some ⟨.int (i.fdiv j),.ints hi hj λS x0 x0 Q E hQ=>floordiv_int (f0t h0) (here S hQ (.int _ _)) (.inl (PyProof.noPylong_small (of_decide_eq_true h1)))⟩
 | .Mod=>onF (ieq j 0) (λx0=>none) λh0=>onT (decide (j.natAbs<1073741824)) λh1=>some ⟨.int (i.fmod j),.ints hi hj λS x0 x0 Q E hQ=>mod_int' (f0t h0) (here S hQ (.int _ _))⟩
 |_=>none
noncomputable def binNP(op:Operator)(x y:V):BinR op x y:=onS x.toInt? λi hi=>onS y.toInt? λj hj=>binIP op x y i j hi hj
noncomputable def binVP(op:Operator)(x y:V):BinR op x y:=match op,x,y with
 | .Add,.str a,.str b=>onT (Nat.ble (wlen a+wlen b) 16777216) λh3=>some ⟨.str (a++b),λx0 x0 x0 x0 x0 x0 x0 S hv hw Q E hQ=>by
   cases hv using VR.eStr with
   |str t ha=>
   cases hw using VR.eStr with
   |str u hb=>
   have h3:=Nat.le_of_ble_eq_true h3
   refine add_str (λt' tk=> ?_) (Nat.le_trans (Nat.add_le_add (a0s ha) (a0s hb)) h3)
   rw[←a0c]
   exact here S hQ (.str _ (a0p ha hb))⟩
 | .Mult,.int i,.num n=>onF (ieq i 32768) (λh=>some ⟨.dimn n,λx0 x0 x0 x0 x0 x0 x0 S hv hw Q E hQ=>by
   cases a0j h
   cases hw using VR.eNum with
   |num u h1 h2=>
   cases hv using VR.eInt with
   |int t=>exact mul_int (here S hQ (.dimn _ _ h1 h2)) (IntMulOk.of_left (d0g (by decide)))⟩) λx0=>binNP _ _ _
 | .FloorDiv,.dimn n,.int i=>onF (ieq i 32768) (λh=>some ⟨.num n,λx0 x0 x0 x0 x0 x0 x0 S hv hw Q E hQ=>by
   cases a0j h
   cases hv using VR.eDimn with
   |dimn u h1 h2=>
   cases hw using VR.eInt with
   |int t=>
   refine floordiv_int (by decide) ?_ (.inl (PyProof.noPylong_small (by decide)))
   rw[show(32768 * n).fdiv 32768=n by rw[Int.mul_comm];exact Int.mul_fdiv_cancel _ (by decide)]
   exact here S hQ (.num _ _ h1 h2)⟩) λx0=>binNP _ _ _
 |op,x,y=>binNP op x y
end
noncomputable def wrep(w:Wd):Nat->Wd
 |0=>[]
 |n+1=>w++wrep w n
theorem o0k{w:Wd}(h:wok w):∀n,wok (wrep w n)
 |0=>trivial
 |n+1=>a0p h (o0k h n)
theorem i0z(c:Array Nat):∀(n:Nat)(acc:Array Nat),((List.replicate n c).foldl (· ++·) acc).toList=acc.toList++(List.replicate n c.toList).flatten
 |0,acc=>by simp
 |n+1,acc=>by
  rw[List.replicate_succ,List.foldl_cons,i0z c n (acc++c),List.replicate_succ,List.flatten_cons,Array.toList_append,List.append_assoc]
theorem l0a(w:Wd):∀n,wcps (wrep w n)=(List.replicate n (wcps w)).flatten
 |0=>rfl
 |n+1=>by
  show wcps (w++wrep w n)=_
  rw[b0u,l0a w n,List.replicate_succ,List.flatten_cons]
theorem u0f(w:Wd)(i:Int)(h0:0≤i):wden (wrep w i.toNat)=Txt.mul (wden w) i:=by
 apply b0k
 rw[a0i,l0a]
 unfold Txt.mul
 split
 ·have:i=0:=by lia
  subst this
  rfl
 ·split
  ·rename_i h1 h
   rcases Bool.or_eq_true_iff.mp h with h|h
   ·have:i=1:=beq_iff_eq.mp h
    subst this
    show(List.replicate 1 _).flatten=wcps w
    simp
   ·have:(wcps w)=[]:=by
     have:=beq_iff_eq.mp h
     have:(wcps w).toArray.size=0:=this
     simpa using this
    rw[a0i,this]
    simp
  ·rw[i0z]
   rfl
theorem w0x{X:Cx}{A:Around}{f:FH}{σ:Gs}{s:Shared}{a1:Addr}{vs:List Value}{k:Nat}{x:Int}{u:Tok}{R:Value->Shared->Prop}{E:Value->Shared->Prop}(S:St X f σ s.heap)(fv:f a1=some (listOf vs.toArray k))(hlo: -(2 ^ 63:Int)≤x)(hhi:x<2 ^ 63)(hsz:vs.length * x.toNat≤2 ^ 24)
  (h:R (.ref s.heap.objs.size) {s with heap:=s.heap.push {cls:=.type "list",data:=.seq (List.foldl (λx1 x2=>x1++x2) #[] (List.replicate (if vs.toArray.isEmpty=true then 0 else x.toNat) vs.toArray))}}):wpAny X.M A (binaryOp .Mult (.ref a1) (.int x u)) R E s:=
 wpAny_binaryOp_repeat_ref (T:="list") (U:="int") (by decide) ⟨_,S.isIn _ _ fv,rfl⟩ (λs'=>typeIs_int s' x u) noFill_list_mul PySem.F.fills_int_mul PySem.F.slot_int_rmul repeat_list PySem.F.slot_int_index.lookup
  (call_meets PySem.F.slot_int_rmul (typeIs_int s x u) PySem.F.entry_int_rmul (PySem.F.args_int_rmul_2 _ _) (int___rmul___int_list x u a1 vs.toArray k)
   ⟨S.isIn _ _ fv,rfl,⟨_,S.isIn _ _ fv,rfl⟩,call_meets PySem.F.slot_list_mul ⟨_,S.isIn _ _ fv,rfl⟩ PySem.F.entry_list_mul (PySem.F.args_list_mul_2 _ _)
    (AutoListH.list___mul___list_int_3 a1 vs.toArray k x u (by simp[Builtin.List.listFitsIndex];lia) (by rw[List.size_toArray];lia) (by simp[Builtin.List.listTooLong,sizeLine];exact hsz))
    ⟨S.isIn _ _ fv,h⟩⟩)
theorem rep1{l:List Value}:(List.foldl (λx1 x2=>x1++x2) #[] (List.replicate (if l.toArray.isEmpty=true then 0 else(1:Int).toNat) l.toArray))=l.toArray:=by
 cases l<;>simp
theorem rep0{l:List Value}:(List.foldl (λx1 x2=>x1++x2) #[] (List.replicate (if l.toArray.isEmpty=true then 0 else(0:Int).toNat) l.toArray))=([]:List Value).toArray:=by
 cases l<;>rfl
noncomputable def catP(op:Operator)(x y:V):BinR op x y:=match op,x,y with
 | .Add,.lst a n,.lst b m=>onT (Nat.ble (n+m) 16777216) λh=>some ⟨.lst (a++b) (n+m),λx0 x0 x0 x0 s x0 x0 S hv hw Q E hQ=>by
  cases hv using VR.eLst with
  | @lst a1 vs k fv rv hn=>
  cases hw using VR.eLst with
  | @lst a2 ws k2 fw rw' hm=>
  have hl:vs.length+ws.length≤sizeLine:=by rw[rv.length,rw'.length];exact Nat.le_trans (Nat.add_le_add hn hm) (Nat.le_of_ble_eq_true h)
  refine concat_meets ⟨_,S.isIn _ _ fv,rfl⟩ ⟨_,S.isIn _ _ fw,rfl⟩ noFill_list_add seq_list_add PySem.F.slot_list_add PySem.F.entry_list_add (PySem.F.args_list_add_2 _ _) (list_addW a1 a2 vs.toArray ws.toArray k k2 none none #[] #[] (by simpa using hl)) ⟨S.isIn _ _ fv,S.isIn _ _ fw,?_⟩
  rw[show vs.toArray++ws.toArray=(vs++ws).toArray by simp]
  exact made S hQ rfl λf' le e=>.lst e ((rv.mono le).append (rw'.mono le)) (by rw[List.length_append];exact Nat.add_le_add hn hm)⟩
 | .Add,.tup a,.tup b=>onT (Nat.ble (a.length+b.length) 16777216) λh=>some ⟨.tup (a++b),λx0 x0 x0 x0 s x0 x0 S hv hw Q E hQ=>by
  cases hv using VR.eTup with
  | @tup a1 vs fv rv=>
  cases hw using VR.eTup with
  | @tup a2 ws fw rw'=>
  have hl:vs.length+ws.length≤sizeLine:=by rw[rv.length,rw'.length];exact Nat.le_of_ble_eq_true h
  cases vs with
  |nil=>
   cases rv
   exact concat_meets ⟨_,S.isIn _ _ fv,rfl⟩ ⟨_,S.isIn _ _ fw,rfl⟩ noFill_tuple_add seq_tuple_add PySem.F.slot_tuple_add PySem.F.entry_tuple_add (PySem.F.args_tuple_add_2 _ _)
    (tuple_addW0 a1 a2 #[] ws.toArray 0 0 none none #[] #[] (by simp)) ⟨S.isIn _ _ fv,S.isIn _ _ fw,here' S hQ (.tup fw rw')⟩
  |cons v vs=>
  cases ws with
  |nil=>
   cases rw'
   exact concat_meets ⟨_,S.isIn _ _ fv,rfl⟩ ⟨_,S.isIn _ _ fw,rfl⟩ noFill_tuple_add seq_tuple_add PySem.F.slot_tuple_add PySem.F.entry_tuple_add (PySem.F.args_tuple_add_2 _ _)
    (tuple_addW1 a1 a2 (v::vs).toArray #[] 0 0 none none #[] #[] (by simp) (by simp)) ⟨S.isIn _ _ fv,S.isIn _ _ fw,here' S hQ (by rw[List.append_nil];exact .tup fv rv)⟩
  |cons w ws=>
   refine concat_meets ⟨_,S.isIn _ _ fv,rfl⟩ ⟨_,S.isIn _ _ fw,rfl⟩ noFill_tuple_add seq_tuple_add PySem.F.slot_tuple_add PySem.F.entry_tuple_add (PySem.F.args_tuple_add_2 _ _)
    (tuple_addW2 a1 a2 (v::vs).toArray (w::ws).toArray 0 0 none none #[] #[] (by simp) (by simp) (by simpa using hl)) ⟨S.isIn _ _ fv,S.isIn _ _ fw,?_⟩
   rw[show(v::vs).toArray++(w::ws).toArray=(v::vs++w::ws).toArray by simp]
   exact made S hQ rfl λf' le e=>.tup e ((rv.mono le).append (rw'.mono le))⟩
 | .Mult,.str a,y=>onS y.toInt? λi hi=>onT (decide (0≤i)) λh0=>onT (decide (i≤64)) λh1=>onT (Nat.ble (wlen a * 64) 16777216) λh2=>some ⟨.str (wrep a i.toNat),λx0 x0 x0 x0 s x0 x0 S hv hw Q E hQ=>by
  obtain⟨u,rfl⟩:=hw.toInt hi
  cases hv using VR.eStr with
  |str t ha=>
  have h0:=of_decide_eq_true h0
  have h1:=of_decide_eq_true h1
  refine SB.mul (mulOk_of (wden a).length 64 (Nat.le_refl _) h1 (by lia) (by decide) (Nat.le_trans (Nat.mul_le_mul_right 64 (a0s ha)) (Nat.le_of_ble_eq_true h2))) λt' k=> ?_
  rw[←u0f a i h0]
  exact here S hQ (.str _ (o0k ha _))⟩
 | .Mult,.lst a n,y=>onS y.toInt? λi hi=>onF (ieq i 0) (λh0=>some ⟨.lst [] 0,λx0 x0 x0 x0 s x0 x0 S hv hw Q E hQ=>by
   obtain⟨u,rfl⟩:=hw.toInt hi
   cases hv using VR.eLst with
   | @lst a1 vs k fv rv hn=>
   cases a0j h0
   refine w0x S fv (by decide) (by decide) (by simp) ?_
   rw[rep0]
   exact made S hQ rfl λf' le e=>.lst e .nil (Nat.le_refl _)⟩) λx0=>onT (ieq i 1) λh1=>onT (Nat.ble n 16777216) λh2=>some ⟨.lst a n,λx0 x0 x0 x0 s x0 x0 S hv hw Q E hQ=>by
   obtain⟨u,rfl⟩:=hw.toInt hi
   cases hv using VR.eLst with
   | @lst a1 vs k fv rv hn=>
   cases a0j h1
   refine w0x S fv (by decide) (by decide) (by rw[rv.length];simp;exact Nat.le_trans hn (Nat.le_of_ble_eq_true h2)) ?_
   rw[rep1]
   exact made S hQ rfl λf' le e=>.lst e (rv.mono le) hn⟩
 |_,_,_=>none
noncomputable def opP(op:Operator)(x y:V):BinR op x y:=match binVP op x y with
 |some z=>some z
 |none=>catP op x y
noncomputable def opV(op:Operator)(x y:V):Option V:=valO (opP op x y)
theorem x0c{X:Cx}{A:Around}{f:FH}{σ:Gs}{s:Shared}{op:Operator}{x y z:V}{v w:Value}(S:St X f σ s.heap)(hv:VR X f v x)(hw:VR X f w y)(e:opV op x y=some z):Tr X A (binaryOp op v w) f σ s z σ:=a0t e _ _ _ _ _ _ _ S hv hw
noncomputable def leq(l:List Nat):List Nat->Bool:=@List.rec Nat (λ_=>List Nat->Bool) (λk=>@List.rec Nat (λ_=>Bool) true (λ_ _ _=>false) k)
 (λa _ ih k=>@List.rec Nat (λ_=>Bool) false (λb t _=>@Bool.rec (λ_=>Bool) false (ih t) (Nat.beq a b)) k) l
theorem b0r:∀l k:List Nat,leq l k=true↔l=k
 |[],[]=>⟨λx0=>rfl,λx0=>rfl⟩
 |[],b::k=>⟨λh=>(nomatch h),λh=>(nomatch h)⟩
 |a::l,[]=>⟨λh=>(nomatch h),λh=>(nomatch h)⟩
 |a::l,b::k=>by
  show(@Bool.rec (λ_=>Bool) false (leq l k) (Nat.beq a b))=true↔_
  cases h:Nat.beq a b with
  |true=>exact⟨λq=>by rw[Nat.eq_of_beq_eq_true h,(b0r l k).mp q],λq=>(b0r l k).mpr (List.cons.inj q).2⟩
  |false=>exact⟨λq=>(nomatch q),λq=>by rw[(List.cons.inj q).1,Nat.beq_refl] at h;cases h⟩
noncomputable def solid:V->Bool
 | .none=>false
 | .con _=>false
 | .any=>false
 |_=>true
noncomputable def memI(i:Int):List Int->Bool
 |[]=>false
 |j::r=>match ieq j i with
  |true=>true
  |false=>memI i r
section
variable {X:Cx} {A:Around} {f:FH} {σ σ₁ σ₂:Gs} {s:Shared}
noncomputable def refV:V->Bool
 | .tup _=>true
 | .lst _ _=>true
 | .obj _ _=>true
 | .dct _=>true
 | .gl _=>true
 | .rng _=>true
 |_=>false
theorem VR.isRef{v:Value}{x:V}(h:VR X f v x)(e:refV x=true):∃a,v= .ref a:=by
 have:=h.inv
 cases x with
 |tup|lst|obj|dct|rng=>obtain⟨a,q⟩:=this;exact⟨a,by simp only [exists_and_left] at q;exact q.1⟩
 |gl=>exact⟨_,this.1⟩
 |_=>cases e
theorem o0z(nd:Nd):refV (objOf nd)=true:=by cases nd<;>rfl
theorem t0b(nd:Nd):refV (descV nd)=true:=by cases nd<;>rfl
theorem i0i:∀d:Dom,refV (den d)=true
 | .sub k d=>i0i d
 | .node nd=>o0z nd
 | .lett nd=>o0z nd
 | .desc nd=>t0b nd
 | .glu _=>rfl
 | .flow _ _=>rfl
 | .gparts _=>rfl
 | .font _=>rfl
 | .part _=>rfl
 | .lists _=>rfl
 | .parts _=>rfl
 | .items _=>rfl
 | .rows _=>rfl
 | .descs _=>rfl
 | .names=>rfl
 | .show_ _ _=>rfl
 | .tools=>rfl
 | .lpart _=>rfl
theorem q0f{d:Dom}:∀{v:Value},VR X f v (den d)->∃a,v= .ref a:=λh=>h.isRef (i0i d)
theorem VR.solid{v:Value}{x:V}(h:VR X f v x)(e:solid x=true):(v==Value.none)=false:=by
 cases h with
 |none|con|any=>cases e
 |abs k h=>
  obtain⟨a,rfl⟩:=q0f h
  rfl
 |_=>rfl
noncomputable abbrev IntsL(l:List V)(ns:List Int):Prop:=∀(X:Cx)(f:FH)(vs:List Value),VRs X f vs l->IntsAre vs ns
theorem q0t:IntsL [] []:=λx0 x0 x0 h=>by cases h;exact .nil
theorem m0w{x:V}{r:List V}{i:Int}{l:List Int}(hi:x.toInt? =some i)(hl:IntsL r l):IntsL (x::r) (i::l):=λx0 x0 x0 h=>by
 cases h with
 |cons a b=>
  obtain⟨t,rfl⟩:=a.toInt hi
  exact .cons i t (hl _ _ _ b)
noncomputable def intsP:(l:List V)->Option {ns:List Int // IntsL l ns}
 |[]=>some ⟨[],q0t⟩
 |x::r=>onS x.toInt? λi hi=>onP (intsP r) λl hl=>some ⟨i::l,m0w hi hl⟩
noncomputable def intsV(l:List V):Option (List Int):=valO (intsP l)
theorem toInts{f:FH}{vs:List Value}{l:List V}{ns:List Int}(h:VRs X f vs l)(e:intsV l=some ns):IntsAre vs ns:=a0t e _ _ _ h
theorem k0o(i:Int):∀l:List Int,memI i l=l.any (· ==i)
 |[]=>rfl
 |j::r=>by
  rw[List.any_cons,←k0o i r]
  show(match ieq j i with|true=>true|false=>memI i r)=_
  unfold ieq
  by_cases h:j=i
  ·subst h;simp
  ·simp[h]
theorem g0c{M:Model}{v:Value}{Q:Value->Shared->Prop}{E:Value->Shared->Prop}(h:Q (.bool (!(v== .none))) s):wpAny M A (compareOp .IsNot v .none) Q E s:=by
 show wpAny M A (do return .bool (!(←isSame v .none))) Q E s
 refine wpAny_bind ?_
 cases v<;>exact wpAny_pure (wpAny_pure h)
theorem d1i{prog:Program}{w:World}{E:Value->Shared->Prop}{Q:Value->Shared->Prop}{a b:Value}{k:Bool}(h:SeqAt.RcNeAt A s a b k)(hq:Q (.bool k) s):wpAny (model prog w) A (compareOp .NotEq a b) Q E s:=h prog w E Q hq
noncomputable def Room(X:Cx)(A:Around)(n:Nat):Prop:=(X.lp=true->A.handled=none)∧A.depth+2 * n<900∧A.units+16 * n+200<cLine
end
noncomputable abbrev EmpOK(x:V)(b:Bool):Prop:=∀{X:Cx}{f:FH}{v:Value},VR X f v x->∃a vs k,v= .ref a∧f a=some (listOf (List.toArray vs) k)∧List.isEmpty vs=b
theorem r0l{l:List V}{n:Nat}:EmpOK (.lst l n) l.isEmpty:=λh=>by
 cases h using VR.eLst with
 | @lst a vs k fv rv hn=>exact⟨a,vs,k,rfl,fv,by cases rv<;>rfl⟩
theorem r0d{α:Type}{g:α->V}{l:List α}{n:Nat}{X:Cx}{f:FH}{v:Value}(h:VR X f v (.lst (l.map g) n)):∃a vs k,v= .ref a∧f a=some (listOf (List.toArray vs) k)∧List.isEmpty vs=l.isEmpty:=by
 cases l<;>exact r0l h
noncomputable def empP(x:V):Option {b:Bool // EmpOK x b}:=match x with
 | .lst l n=>some ⟨l.isEmpty,r0l⟩
 | .abs (.items l)=>some ⟨l.isEmpty,λh=>by cases h using VR.eAbs with|abs k h=>exact r0d h⟩
 | .abs (.parts l)=>some ⟨l.isEmpty,λh=>by cases h using VR.eAbs with|abs k h=>exact r0d h⟩
 |_=>none
noncomputable def CmpOK(op:CmpOp)(x y:V)(b:Bool):Prop:=∀(X:Cx)(A:Around)(f:FH)(σ:Gs)(s:Shared)(v w:Value)(n:Nat),St X f σ s.heap->Room X A n->VR X f v x->VR X f w y->Tr X A (compareOp op v w) f σ s (.bool b) σ
noncomputable abbrev CmpR(op:CmpOp)(x y:V):=Option {b:Bool // CmpOK op x y b}
theorem CmpOK.ints{op:CmpOp}{x y:V}{i j:Int}{b:Bool}(hi:x.toInt? =some i)(hj:y.toInt? =some j)(H:∀(X:Cx)(A:Around)(f:FH)(σ:Gs)(s:Shared)(t u:Tok),St X f σ s.heap->Tr X A (compareOp op (.int i t) (.int j u)) f σ s (.bool b) σ):CmpOK op x y b:=λx0 x0 x0 x0 x0 x0 x0 x0 S x0 hv hw=>by
 obtain⟨t,rfl⟩:=hv.toInt hi
 obtain⟨u,rfl⟩:=hw.toInt hj
 exact H _ _ _ _ _ _ _ S
noncomputable def cmpIP(op:CmpOp)(x y:V)(i j:Int)(hi:x.toInt? =some i)(hj:y.toInt? =some j):CmpR op x y:=match op with
 | .Eq=>some ⟨i==j,.ints hi hj λx0 x0 x0 x0 x0 x0 x0 S Q E hQ=>eq_int (here' S hQ (.bool _))⟩
 | .NotEq=>some ⟨i != j,.ints hi hj λx0 x0 x0 x0 x0 x0 x0 S Q E hQ=>ne_int (here' S hQ (.bool _))⟩
 | .Lt=>some ⟨decide (i<j),.ints hi hj λx0 x0 x0 x0 x0 x0 x0 S Q E hQ=>lt_int (here' S hQ (.bool _))⟩
 | .LtE=>some ⟨decide (i≤j),.ints hi hj λx0 x0 x0 x0 x0 x0 x0 S Q E hQ=>le_int (here' S hQ (.bool _))⟩
 | .Gt=>some ⟨decide (j<i),.ints hi hj λx0 x0 x0 x0 x0 x0 x0 S Q E hQ=>gt_int (here' S hQ (.bool _))⟩
 | .GtE=>some ⟨decide (j≤i),.ints hi hj λx0 x0 x0 x0 x0 x0 x0 S Q E hQ=>ge_int (here' S hQ (.bool _))⟩
 |_=>none
theorem k0s{a b:Wd}{k l:List Nat}(hk:wlit a=some k)(hl:wlit b=some l):(wden a==wden b)=leq k l:=by
 rw[Bool.eq_iff_iff,beq_iff_eq,b0r,←a0x hk,←a0x hl,←a0i,←a0i]
 exact⟨λq=>by rw[q],λq=>b0k q⟩
noncomputable def eqB:Bool->Bool->Bool
 |true,b=>b
 |false,b=> !b
theorem b1n(a b:Bool):(a==b)=eqB a b:=by cases a<;>cases b<;>rfl
noncomputable def cmpNP(op:CmpOp)(x y:V):CmpR op x y:=onS x.toInt? λi hi=>onS y.toInt? λj hj=>cmpIP op x y i j hi hj
noncomputable def cmpP(op:CmpOp)(x y:V):CmpR op x y:=match y with
 | .none=>match op with
  | .Is=>match x with
   | .none=>some ⟨true,λx0 x0 x0 x0 s x0 x0 x0 S x0 hv hw Q E hQ=>by
    cases hv using VR.eNone;cases hw using VR.eNone
    exact is_none_none (here' S hQ (.bool _))⟩
   |x=>onT (solid x) λhs=>some ⟨false,λx0 x0 x0 x0 s x0 x0 x0 S x0 hv hw Q E hQ=>by
    cases hw using VR.eNone
    refine is_none_gen (here' S hQ ?_)
    rw[hv.solid hs];exact .bool _⟩
  | .IsNot=>match x with
   | .none=>some ⟨false,λx0 x0 x0 x0 s x0 x0 x0 S x0 hv hw Q E hQ=>by
    cases hv using VR.eNone;cases hw using VR.eNone
    exact g0c (here' S hQ (.bool _))⟩
   |x=>onT (solid x) λhs=>some ⟨true,λx0 x0 x0 x0 s x0 x0 x0 S x0 hv hw Q E hQ=>by
    cases hw using VR.eNone
    refine g0c (here' S hQ ?_)
    rw[hv.solid hs];exact .bool _⟩
  |_=>none
 | .str b=>match x with
  | .str a=>match op with
   | .Eq=>onS (wlit a) λk hk=>onS (wlit b) λl hl=>some ⟨leq k l,λx0 x0 x0 x0 s x0 x0 x0 S x0 hv hw Q E hQ=>by
    cases hv using VR.eStr with
    |str t ha=>
    cases hw using VR.eStr with
    |str u hb=>exact eq_str (here' S hQ (by rw[k0s hk hl];exact .bool _))⟩
   | .NotEq=>onS (wlit a) λk hk=>onS (wlit b) λl hl=>some ⟨!leq k l,λx0 x0 x0 x0 s x0 x0 x0 S x0 hv hw Q E hQ=>by
    cases hv using VR.eStr with
    |str t ha=>
    cases hw using VR.eStr with
    |str u hb=>exact ne_str (here' S hQ (by show VR _ _ (.bool (!(wden a==wden b))) _;rw[k0s hk hl];exact .bool _))⟩
   |_=>none
  |_=>none
 | .bool b=>match op,x with
  | .Eq,.bool a=>some ⟨eqB a b,λx0 x0 x0 x0 s x0 x0 x0 S x0 hv hw Q E hQ=>by
   cases hv using VR.eBool;cases hw using VR.eBool
   exact eq_bool (here' S hQ (by rw[b1n];exact .bool _))⟩
  |_,_=>none
 | .lst [] m=>match op with
  | .NotEq=>onP (empP x) λb hb=>some ⟨!b,λx0 A x0 x0 s x0 x0 x0 S hA hv hw Q E hQ=>by
   have hu:A.units<cLine:=by have:=hA.2.2;lia
   cases hw using VR.eLst with
   | @lst a2 ws k2 fw rw' hm=>
   cases rw'
   obtain⟨a1,vs,k,rfl,fv,rfl⟩:=hb hv
   cases vs with
   |nil=>exact d1i (SeqAt.RcNeAt.lists (e:=λx0=>true) (S.list fv) (S.list fw) rfl hu λj h1 h2=>absurd h1 (by simp)) (here' S hQ (.bool _))
   |cons v vs=>exact d1i (SeqAt.RcNeAt.lists_lengths (S.list fv) (S.list fw) (by simp) hu) (here' S hQ (.bool _))⟩
  |_=>none
 | .tup l=>match op with
  | .In=>onS x.toInt? λi hi=>onS (intsV l) λns hns=>some ⟨memI i ns,λx0 x0 x0 x0 s x0 x0 x0 S x0 hv hw Q E hQ=>by
   obtain⟨t,rfl⟩:=hv.toInt hi
   cases hw using VR.eTup with
   | @tup a2 ws fw rw'=>exact in_tuple_ints (S.tup fw) (by simpa using toInts rw' hns) (here' S hQ (by rw[←k0o];exact .bool _))⟩
  |_=>none
 |y=>cmpNP op x y
section
variable {X:Cx} {A:Around} {f:FH} {σ σ₁ σ₂:Gs} {s:Shared}
theorem VRs.two{a b:Value}{x y:V}(h:VR X f a x)(k:VR X f b y):VRs X f [a,b] [x,y]:=.cons h (.cons k .nil)
end
noncomputable abbrev UnpOK(d:Dom)(l:List V):Prop:=∀{X:Cx}{f:FH}{v:Value},VR X f v (.abs d)->VR X f v (.tup l)
theorem k0v{X:Cx}{f:FH}{v:Value}{w:Wd}{b:Nat}(h:VR X f v (.str w))(hb:(wden w).length≤b):VR X f v (.str [.h (wden w) b]):=by
 cases h using VR.eStr with
 |str t hw=>
 have:=VR.str (X:=X) (f:=f) t (w:=[.h (wden w) b]) ⟨hb,trivial⟩
 rwa [a0e] at this
theorem k0m{X:Cx}{f:FH}{v:Value}{nd:Nd}{d:Dom}(hd:∀v,VR X f v (objOf nd)->VR X f v (.abs d))(k:(txt nd).length≤400)(h:VR X f v (partV nd)):VR X f v (.tup [.abs d,.str [.h (txt nd) 400],.abs (.lists nd),.abs (.parts (repl nd))]):=by
 unfold partV at h
 cases h using VR.eTup with
 | @tup a vs fv rv=>
 cases rv with
 |cons h1 rv=>
 cases rv with
 |cons h2 rv=>
 cases rv with
 |cons h3 rv=>
 cases rv with
 |cons h4 rv=>
 cases rv
 exact .tup fv (.cons (hd _ h1) (.cons (k0v h2 k) (.cons (.abs trivial h3) (.cons (by cases nd<;>first|exact h4|exact .abs (Nat.zero_le _) h4) .nil))))
noncomputable def unpP:(d:Dom)->Option {l:List V // UnpOK d l}
 | .part nd=>some ⟨[.abs (.node nd),.str [.h (txt nd) 400],.abs (.lists nd),.abs (.parts (repl nd))],λh=>k0m (λx0 h1=>.abs h.inv.1 h1) h.inv.1 h.inv.2⟩
 | .flow u g=>some ⟨[.abs (.glu g),.str [.h (gtxtS u g) 200]],λh=>by
  have k:=h.inv.1
  have h:=h.inv.2
  cases h using VR.eTup with
  | @tup a vs fv rv=>
  cases rv with
  |cons h1 rv=>
  cases rv with
  |cons h2 rv=>
  cases rv
  exact .tup fv (.two (.abs k.2 h1) (k0v h2 k.1))⟩
 | .tools=>some ⟨[.lst [.tup [.abs (.font 0),.str (wS "fa")],.tup [.abs (.font 1),.str (wS "big")]] 2,.abs .names],λh=>h.inv.2⟩
 | .lpart nd=>some ⟨[.abs (.lett nd),.str [.h (txt nd) 400],.abs (.lists nd),.abs (.parts (repl nd))],λh=>k0m (λx0 h1=>.abs h.inv.1 h1) h.inv.1.2 h.inv.2⟩
 |_=>none
section
variable {X:Cx} {A:Around} {f:FH} {σ σ₁ σ₂:Gs} {s:Shared}
theorem d0d{i:Int}(h0:decide (0≤i)=true)(h1:decide (i<2 ^ 62)=true):0≤i∧i<2 ^ 63:=by
 have h0:=of_decide_eq_true h0
 have h1:=of_decide_eq_true h1
 lia
theorem p0k{z:V}{v:Value}{l:List V}{i:Int}{t:Tok}(S:St X f σ s.heap)(hv:VR X f v (.tup l))(h0:0≤i)(h1:i<2 ^ 63)(e:l[i.toNat]? =some z):
  (∃T id,s.TypeIs v T∧typeLookup (.type T) "__getitem__"=pure (some (.builtin id)))∧Tr X A (getItem v (.int i t)) f σ s z σ:=by
 cases hv using VR.eTup with
 | @tup a1 vs fv rv=>
 obtain⟨y,hy,ry⟩:=rv.get e
 have hlt:i.toNat<vs.length:=(List.getElem?_eq_some_iff.mp hy).1
 refine⟨⟨_,_,(S.tup fv).typeIs,slot_tuple_getitem.lookup⟩,λQ E hQ=>getItem_tuple (S.tup fv) (by lia) h1 (j:=i.toNat) ?_ (by simpa using hy) (here' S hQ ry)⟩
 rw[List.size_toArray];exact seqIndex_of h0 (by lia)
end
noncomputable def IdxOK(x:V)(i:Int)(z:V):Prop:=∀(X:Cx)(A:Around)(f:FH)(σ:Gs)(s:Shared)(v:Value)(t:Tok),St X f σ s.heap->VR X f v x->(∃T id,s.TypeIs v T∧typeLookup (.type T) "__getitem__"=pure (some (.builtin id)))∧Tr X A (getItem v (.int i t)) f σ s z σ
noncomputable def idxP(x:V)(i:Int):Option {z:V // IdxOK x i z}:=onT (decide (0≤i)) λh0=>onT (decide (i<2 ^ 62)) λh1=>match x with
 | .lst l _=>onS l[i.toNat]? λz e=>some ⟨z,λX A f σ s v t S hv=>by
  have hi:=d0d h0 h1
  cases hv using VR.eLst with
  | @lst a1 vs k fv rv hn=>
  obtain⟨y,hy,ry⟩:=rv.get e
  exact⟨⟨_,_,(S.list fv).typeIs,slot_list_getitem.lookup⟩,λQ E hQ=>wpAny_getItem_list (S.list fv) hi.1 hi.2 (by simpa using hy) (here' S hQ ry)⟩⟩
 | .tup l=>onS l[i.toNat]? λz e=>some ⟨z,λX A f σ s v t S hv=>p0k S hv (d0d h0 h1).1 (d0d h0 h1).2 e⟩
 | .str a=>onS (wlit a) λl hl=>onS l[i.toNat]? λc hc=>some ⟨.str [.c c],λX A f σ s v t S hv=>by
  have hi:=d0d h0 h1
  cases hv using VR.eStr with
  |str t' ha=>
  have hc':(wden a).cps[i.toNat]? =some c:=by
   rw[←Array.getElem?_toList,a0i,a0x hl];exact hc
  have hlt:i.toNat<(wden a).cps.size:=(Array.getElem?_eq_some_iff.mp hc').1
  refine⟨⟨_,_,typeIs_str _ _ _,slot_str_getitem.lookup⟩,λQ E hQ=>getItem_str (by simp only [Bool.or_eq_false_iff,decide_eq_false_iff_not];lia) (c:=c) ?_ (here S hQ (x:=.str [.c c]) (.str (w:=[.c c]) _ ⟨trivial,trivial⟩))⟩
  rw[seqIndex_of hi.1 (by show i<((wden a).cps.size:Int);lia)];exact hc'⟩
 | .abs d=>onP (unpP d) λl hl=>onS l[i.toNat]? λz e=>some ⟨z,λX A f σ s v t S hv=>p0k S (hl hv) (d0d h0 h1).1 (d0d h0 h1).2 e⟩
 |_=>none
noncomputable def idxV(x:V)(i:Int):Option V:=valO (idxP x i)
theorem o0o{X:Cx}{A:Around}{f:FH}{σ:Gs}{s:Shared}{x z:V}{v:Value}{i:Int}{t:Tok}(S:St X f σ s.heap)(hv:VR X f v x)(e:idxV x i=some z):
  (∃T id,s.TypeIs v T∧typeLookup (.type T) "__getitem__"=pure (some (.builtin id)))∧Tr X A (getItem v (.int i t)) f σ s z σ:=a0t e _ _ _ _ _ _ _ S hv
noncomputable def seq(a b:Str):Bool:=leq a.cps.toList b.cps.toList
theorem a0h(a b:Str):seq a b=true↔a=b:=by
 unfold seq
 rw[b0r]
 constructor
 ·intro h;obtain⟨a⟩:=a;obtain⟨b⟩:=b;simpa using Array.toList_inj.mp h
 ·rintro rfl;rfl
noncomputable def look{α:Type}(x:Str)(l:List (Str × α)):Option α:=@List.rec (Str × α) (λ_=>Option α) none (λp _ ih=>@Prod.rec Str α (λ_=>Option α) (λy v=>@Bool.rec (λ_=>Option α) ih (some v) (seq x y)) p) l
theorem g0h{α:Type}(x y:Str)(v:α)(r:List (Str × α)):look x ((y,v)::r)=match seq x y with|true=>some v|false=>look x r:=by
 show(@Bool.rec (λ_=>Option α) (look x r) (some v) (seq x y))=_
 cases seq x y<;>rfl
theorem c0f{α:Type}(x:Str):∀l:List (Str × α),look x l=l.lookup x
 |[]=>rfl
 |(y,v)::r=>by
  rw[List.lookup_cons,g0h]
  cases h:seq x y with
  |true=>rw[(a0h x y).mp h];simp
  |false=>
   have:(x==y)=false:=by
    cases q:x==y with
    |false=>rfl
    |true=>rw[(a0h x y).mpr (beq_iff_eq.mp q)] at h;cases h
   rw[this];exact c0f x r
noncomputable def lookA{α:Type}(a:Addr)(l:List (Addr × α)):Option α:=@List.rec (Addr × α) (λ_=>Option α) none (λp _ ih=>@Prod.rec Addr α (λ_=>Option α) (λy v=>@Bool.rec (λ_=>Option α) ih (some v) (Nat.beq a y)) p) l
theorem a1p{α:Type}(x y:Addr)(v:α)(r:List (Addr × α)):lookA x ((y,v)::r)=match Nat.beq x y with|true=>some v|false=>lookA x r:=by
 show(@Bool.rec (λ_=>Option α) (lookA x r) (some v) (Nat.beq x y))=_
 cases Nat.beq x y<;>rfl
theorem b0h{α:Type}{a:Addr}{v:α}:∀{l:List (Addr × α)},lookA a l=some v->(a,v)∈l
 |(b,w)::r,h=>by
  rw[a1p] at h
  cases q:Nat.beq a b with
  |true=>rw[q] at h;cases h;rw[Nat.eq_of_beq_eq_true q];exact .head _
  |false=>rw[q] at h;exact .tail _ (b0h h)
theorem c0u{α:Type}{a:Str}{v:α}:∀{l:List (Str × α)},look a l=some v->(a,v)∈l
 |(b,w)::r,h=>by
  rw[g0h] at h
  cases q:seq a b with
  |true=>rw[q] at h;cases h;rw[(a0h a b).mp q];exact .head _
  |false=>rw[q] at h;exact .tail _ (c0u h)
noncomputable def memS(x:Str)(l:List Str):Bool:=@List.rec Str (λ_=>Bool) false (λy _ ih=>@Bool.rec (λ_=>Bool) ih true (seq x y)) l
theorem w0d(x y:Str)(r:List Str):memS x (y::r)=match seq x y with|true=>true|false=>memS x r:=by
 show(@Bool.rec (λ_=>Bool) (memS x r) true (seq x y))=_
 cases seq x y<;>rfl
theorem d0r{x:Str}:∀{l:List Str},memS x l=true->x∈l
 |y::r,h=>by
  rw[w0d] at h
  cases q:seq x y with
  |true=>rw[(a0h x y).mp q];exact .head _
  |false=>rw[q] at h;exact .tail _ (d0r h)
inductive Ow where
 |lst (l:List V) (n:Nat)
 |ins (C:Addr) (fs:List (Str × V))
 |tot (p q:List V)
noncomputable abbrev Vars:=List (Str × V)
structure Bs where
 f₀:FH
 h₀:Heap
 pins:List (Addr × Obj)
 me:Option Value:=none
structure Cz(X:Cx)(env:Env)(n₀:Bs):Prop where
 kind:env.scope.kind= .function
 glob:env.globals=mainGlobals
 blt:env.builtins=builtinsNs
 stat:∃o,n₀.h₀.get? cStatics=some o
 hcl:∀z,env.kindOf z=some .cell∨env.kindOf z=some .free->(env.cells.lookup z).isSome=true
noncomputable def valOf(env:Env)(m cm:Str->Option Value)(x:Str):Option Value:=match env.kindOf x with
 |some .local=>m x
 |some .cell|some .free=>(env.cells.lookup x).bind λx0=>cm x
 |_=>none
structure Fresh(X:Cx)(B:Bs)(f:FH)(a:Addr):Prop where
 at0:B.h₀.get? a=none
 ng:¬X.G a
 off:f a=none
 pin:∀p∈B.pins,p.1≠a
structure Fm(X:Cx)(env:Env)(n₀:Bs)(f:FH)(h:Heap)(m cm:Str->Option Value):Prop where
 ns:h.Ns env.locals m
 lo:Fresh X n₀ f env.locals
 cell:∀n c,env.cells.lookup n=some c->h.IsCell c (cm n)
 apart:env.cells.Pairwise λx y=>x.2≠y.2
 above:∀n c,(n,c)∈env.cells->Fresh X n₀ f c∧c≠env.locals∧∃o,h.get? c=some o
noncomputable def Own(X:Cx)(env:Env)(n₀:Bs)(f:FH)(a:Addr):Prop:=Fresh X n₀ f a∧a≠env.locals∧(∀x∈env.cells,x.2≠a)
inductive LstR(X:Cx)(env:Env)(n₀:Bs)(f:FH)(h:Heap)(v:Value)(l:List V)(n:Nat):Prop
 |mk (a:Addr) (vs:List Value) (k:Nat) (e:v= .ref a) (h1:h.get? a=some (listOf (List.toArray vs) k)) (h2:VRs X f vs l) (h3:l.length≤n) (h4:Own X env n₀ f a)
inductive InsR(X:Cx)(env:Env)(n₀:Bs)(f:FH)(h:Heap)(v:Value)(C:Addr)(fs:List (Str × V)):Prop
 |mk (a d:Addr) (es:List DictEntry) (k:Nat) (e:v= .ref a) (h1:h.get? a=some (instObj C d)) (h2:h.get? d=some {cls:=.type "dict",data:=.dict (List.toArray es) k}) (h3:VRd X f es fs) (h4:Own X env n₀ f a) (h5:Own X env n₀ f d) (h6:a≠d)
noncomputable abbrev TotE(es:List DictEntry)(i j:Addr):Prop:=∃t t1 t2 t3 e1 e2 e3,es=[⟨e1,.str "natural" t1,.int 0 t⟩,⟨e2,.str "stretch" t2,.ref i⟩,⟨e3,.str "shrink" t3,.ref j⟩]
inductive TotR(X:Cx)(env:Env)(n₀:Bs)(f:FH)(h:Heap)(v:Value)(p q:List V):Prop
 |mk (a d:Addr) (es:List DictEntry) (k:Nat) (i j:Addr) (vs ws:List Value) (kn ks:Nat) (e:v= .ref a) (h1:h.get? a=some (instObj 312 d)) (h2:h.get? d=some {cls:=.type "dict",data:=.dict (List.toArray es) k}) (h3:TotE es i j)
   (h4:h.get? i=some (listOf (List.toArray vs) kn)) (h5:h.get? j=some (listOf (List.toArray ws) ks)) (h6:VRs X f vs p) (h7:VRs X f ws q) (o1:Own X env n₀ f a) (o2:Own X env n₀ f d) (o3:Own X env n₀ f i) (o4:Own X env n₀ f j) (nd:[a,d,i,j].Nodup)
noncomputable def OR(X:Cx)(env:Env)(n₀:Bs)(f:FH)(h:Heap)(v:Value):Ow->Prop
 | .lst l n=>LstR X env n₀ f h v l n
 | .ins C fs=>InsR X env n₀ f h v C fs
 | .tot p q=>TotR X env n₀ f h v p q
structure Rel(X:Cx)(env:Env)(n₀:Bs)(f:FH)(h:Heap)(vars:Vars)(ow:Option (Str × Ow))(m cm:Str->Option Value):Prop where
 kp:Kp X n₀.f₀ n₀.h₀ f h
 me:∀v,n₀.me=some v->valOf env m cm "self"=some v
 pin:∀p∈n₀.pins,h.get? p.1=some p.2∧¬X.G p.1∧n₀.h₀.get? p.1=none∧f p.1=none
 fm:Fm X env n₀ f h m cm
 vars:∀x y,look x vars=some y->∃v,valOf env m cm x=some v∧VR X f v y
 own:∀x o,ow=some (x,o)->∃v,valOf env m cm x=some v∧OR X env n₀ f h v o
section
variable {X:Cx} {A:Around} {env:Env} {n₀:Bs} {f f':FH} {σ σ₁ σ₂:Gs} {s:Shared} {h h':Heap} {m cm:Str->Option Value} {vars:Vars} {ow:Option (Str × Ow)}
theorem Cz.me(C:Cz X env n₀)(o:Option Value):Cz X env {n₀ with me:=o}:=⟨C.kind,C.glob,C.blt,C.stat,C.hcl⟩
theorem Fresh.me{a:Addr}(F:Fresh X n₀ f a)(o:Option Value):Fresh X {n₀ with me:=o} f a:=⟨F.at0,F.ng,F.off,F.pin⟩
theorem Kp.off(K:Kp X f h f' h'){a:Addr}{o:Obj}(lt:h.get? a=some o)(e:f a=none):f' a=none:=by
 exact Option.eq_none_iff_forall_ne_some.mpr λo q=>(K.new a o q).elim (λz=>Option.some_ne_none _ (z.symm.trans e)) λz=>Option.some_ne_none _ (lt.symm.trans z.1)
theorem Fresh.kp{a:Addr}{o:Obj}(F:Fresh X n₀ f a)(e:h.get? a=some o)(K:Kp X f h f' h'):Fresh X n₀ f' a:=⟨F.at0,F.ng,K.off e F.off,F.pin⟩
noncomputable abbrev Moved(X:Cx)(n₀ n₁:Bs)(f f':FH)(h h':Heap):Prop:=∀(a:Addr)(o:Obj),Fresh X n₀ f a->h.get? a=some o->h'.get? a=some o∧Fresh X n₁ f' a
theorem Fm.map{n₁:Bs}(F:Fm X env n₀ f h m cm)(H:Moved X n₀ n₁ f f' h h'):Fm X env n₁ f' h' m cm:=
 F.ns.elim λo q=>⟨⟨o,q.imp λes q=>q.imp λep q=>⟨(H _ _ F.lo q.1).1,q.2⟩⟩,q.elim λ_ q=>q.elim λ_ q=>(H _ _ F.lo q.1).2,λn c hc=>(F.cell n c hc).imp λo q=>⟨(H _ _ (F.above n c (mem_of_lookup hc)).1 q.1).1,q.2⟩,F.apart,λn c hc=>
  have z:=F.above n c hc;z.2.2.elim λo e=>⟨(H _ _ z.1 e).2,z.2.1,o,(H _ _ z.1 e).1⟩⟩
theorem OR.map{n₁:Bs}{v:Value}{o:Ow}(O:OR X env n₀ f h v o)(le:f.le f')(H:Moved X n₀ n₁ f f' h h'):OR X env n₁ f' h' v o:=by
 have H':∀{a:Addr}{o:Obj},Own X env n₀ f a->h.get? a=some o->h'.get? a=some o∧Own X env n₁ f' a:=λF e=>⟨(H _ _ F.1 e).1,(H _ _ F.1 e).2,F.2⟩
 cases o with
 |lst l n=>cases O with|mk a vs k e h1 h2 h3 h4=>exact⟨a,vs,k,e,(H' h4 h1).1,h2.mono le,h3,(H' h4 h1).2⟩
 |ins D fs=>cases O with|mk a d es k e h1 h2 h3 h4 h5 h6=>exact⟨a,d,es,k,e,(H' h4 h1).1,(H' h5 h2).1,h3.mono le,(H' h4 h1).2,(H' h5 h2).2,h6⟩
 |tot p q=>cases O with|mk a d es k i j vs ws kn ks e h1 h2 h3 h4 h5 h6 h7 o1 o2 o3 o4 nd=>exact⟨a,d,es,k,i,j,vs,ws,kn,ks,e,(H' o1 h1).1,(H' o2 h2).1,h3,(H' o3 h4).1,(H' o4 h5).1,h6.mono le,h7.mono le,(H' o1 h1).2,(H' o2 h2).2,(H' o3 h4).2,(H' o4 h5).2,nd⟩
theorem Rel.map{n₁:Bs}(R:Rel X env n₀ f h vars ow m cm)(kp:Kp X n₁.f₀ n₁.h₀ f' h')(me:n₁.me=n₀.me)(pin:∀p∈n₁.pins,h'.get? p.1=some p.2∧¬X.G p.1∧n₁.h₀.get? p.1=none∧f' p.1=none)(le:f.le f')(H:Moved X n₀ n₁ f f' h h'):Rel X env n₁ f' h' vars ow m cm:=
 ⟨kp,λv e=>R.me v (me▸e),pin,R.fm.map H,λx y e=>(R.vars x y e).imp λv q=>⟨q.1,q.2.mono le⟩,λx o e=>(R.own x o e).imp λv q=>⟨q.1,q.2.map le H⟩⟩
theorem Kp.moved(K:Kp X f h f' h'):Moved X n₀ n₀ f f' h h':=λa o F e=>⟨K.keep _ _ e F.ng,F.kp e K⟩
theorem Own.kp{a:Addr}(O:Own X env n₀ f a){o:Obj}(e:h.get? a=some o)(K:Kp X f h f' h'):Own X env n₀ f' a:=⟨O.1.kp e K,O.2⟩
theorem OR.kp{v:Value}{o:Ow}(O:OR X env n₀ f h v o)(K:Kp X f h f' h'):OR X env n₀ f' h' v o:=O.map K.le K.moved
theorem Rel.kp'(R:Rel X env n₀ f h vars ow m cm)(K:Kp X f h f' h'):Rel X env n₀ f' h' vars ow m cm:=
 R.map (R.kp.trans K) rfl (λp hp=>⟨K.keep _ _ (R.pin p hp).1 (R.pin p hp).2.1,(R.pin p hp).2.1,(R.pin p hp).2.2.1,K.off (R.pin p hp).1 (R.pin p hp).2.2.2⟩) K.le K.moved
theorem b0o(C:Cz X env n₀)(F:Fm X env n₀ f s.heap m cm){x:Str}{v:Value}{Q:Value->Shared->Prop}{E:Value->Shared->Prop}(e:valOf env m cm x=some v)(hc:(x==("__classdict__":Str))=false)(h:Q v s):
  wpAny X.M A (loadName env x) Q E s:=by
 unfold valOf at e
 split at e
 ·rename_i k;exact wpAny_loadName_local C.kind k F.ns e h
 ·rename_i k
  obtain⟨c,q,e⟩:=Option.bind_eq_some_iff.mp e
  exact wpAny_loadName_cell C.kind k q (e▸F.cell x c q) h
 ·rename_i k
  obtain⟨c,q,e⟩:=Option.bind_eq_some_iff.mp e
  exact wpAny_loadName_free C.kind k q (e▸F.cell x c q) h hc
 ·cases e
end
structure Ec where
 GT:List (Str × V)
 absent:List (Addr × List Str)
 cval:List (Addr × List (Str × V))
 meth:List (Addr × List (Str × Addr))
 sets:List (Addr × List Str)
 lp:Bool
noncomputable def kindG(sc:Scope)(x:Str):Bool:=match look x sc.names with
 |some .globalImplicit=>true
 |_=>false
noncomputable def handV:V->Bool
 | .con (.ref _)=>true
 | .con _=>false
 | .any=>false
 |_=>true
noncomputable def objV:V->Option (Addr × List (Str × V))
 | .obj C fs=>some (C,fs)
 | .abs d=>match den d with
  | .obj C fs=>some (C,fs)
  |_=>none
 |_=>none
noncomputable def attrV(K:Ec)(x:V)(a:Str):Option V:=match objV x with
 |some (C,fs)=>match look a fs with
  |some y=>match lookA C K.absent with
   |some l=>match memS a l&&handV y with
    |true=>some y
    |false=>none
   |none=>none
  |none=>match lookA C K.cval with
   |some l=>look a l
   |none=>none
 |_=>none
noncomputable def methV(K:Ec)(x:V)(a:Str):Option Addr:=match objV x with
 |some (C,fs)=>match look a fs with
  |some _=>none
  |none=>match lookA C K.meth with
   |some l=>look a l
   |none=>none
 |_=>none
noncomputable def globalIn(K:Frag)(x:Str):Option Value:=match nsIn K mainGlobals x with
 |some (some v)=>some v
 |some none=>match nsIn K builtinsNs x with
  |some (some v)=>some v
  |_=>none
 |none=>none
noncomputable def BaseIn(X:Cx)(f:FH):Prop:=∀a o,X.K.lookup a=some o->f a=some o
structure EcOK(X:Cx)(K:Ec):Prop where
 glob:∀p∈K.GT,∃v,globalIn X.K p.1=some v∧∀f,BaseIn X f->VR X f v p.2
 absent:∀p∈K.absent,hasDictIn X.K p.1=true∧∀x∈p.2,plainGet X.K p.1 x=true∧findIn X.K (.ref p.1) x=some none
 cval:∀p∈K.cval,hasDictIn X.K p.1=true∧∀q∈p.2,plainGet X.K p.1 q.1=true∧∃v,findIn X.K (.ref p.1) q.1=some (some v)∧specialIn X.K v "__get__"=some none∧handedIn v=true∧copiedNames.contains q.1=false∧∀f,BaseIn X f->VR X f v q.2
 meth:∀p∈K.meth,∀q∈p.2,plainGet X.K p.1 q.1=true∧findIn X.K (.ref p.1) q.1=some (some (.ref q.2))∧isFn X.K (.ref q.2)=true
 sets:∀p∈K.sets,findIn X.K (.ref p.1) "__setattr__"=some (some (.builtin "object.__setattr__"))∧plainOver X.K p.1=true∧hasDictIn X.K p.1=true∧∀x∈p.2,takerIn X.K p.1 x=some none
 lp:K.lp=true->X.lp=true
theorem i0x{e:DictEntry}{k a:Str}{t:Tok}(he:e.key= .str k t):e.key.isStr a=seq a k:=by
 rw[he]
 show(k==a)=seq a k
 cases q:seq a k with
 |true=>rw[(a0h a k).mp q];simp
 |false=>
  cases q2:k==a with
  |false=>rfl
  |true=>rw[(a0h a k).mpr (beq_iff_eq.mp q2).symm] at q;cases q
theorem g0q{e:DictEntry}{k:Str}{t:Tok}(he:e.key= .str k t):e.refKey=false:=by
 unfold DictEntry.refKey
 rw[he]
noncomputable def GL(X:Cx)(f:FH)(a:Str)(es:List DictEntry):Option V->Prop
 |some y=>∃v,getL a es=some (some v)∧VR X f v y
 |none=>getL a es=some none
theorem q0k{e:DictEntry}{k:Str}{t:Tok}(he:e.key= .str k t)(a:Str)(es:List DictEntry):getL a (e::es)=cond (seq a k) (some (some e.val)) (getL a es):=by
 unfold getL
 rw[List.find?_cons,List.any_cons,g0q he,Bool.false_or,i0x he]
 cases seq a k<;>rfl
section
variable {X:Cx} {A:Around} {f:FH} {σ σ₁ σ₂:Gs} {s:Shared} {K:Ec} {n:Nat}
theorem o0d{f:FH}{a:Str}{es:List DictEntry}{fs:List (Str × V)}(h:VRd X f es fs):GL X f a es (look a fs):=by
 refine h.ind (motive:=λes fs=>GL X f a es (look a fs)) rfl ?_
 intro e k t x es fs he hv r ih
 have g:=q0k he a es
 rw[g0h]
 cases q:seq a k with
 |true=>rw[q] at g;exact⟨e.val,g,hv⟩
 |false=>
  rw[q] at g
  revert ih
  cases look a fs with
  |none=>exact λih=>g.trans ih
  |some y=>exact λih=>ih.imp λv q=>⟨g.trans q.1,q.2⟩
theorem j0q{f:FH}{a:Str}{y:V}{es:List DictEntry}{fs:List (Str × V)}(h:VRd X f es fs)(e:look a fs=some y):∃v,getL a es=some (some v)∧VR X f v y:=
 have g:=o0d (a:=a) h
 (e▸g:GL X f a es (some y))
theorem i0u{f:FH}{a:Str}{es:List DictEntry}{fs:List (Str × V)}(h:VRd X f es fs)(e:look a fs=none):getL a es=some none:=
 have g:=o0d (a:=a) h
 (e▸g:GL X f a es none)
theorem n0p{f:FH}{v:Value}{y:V}(h:VR X f v y)(e:handV y=true):handedIn v=true:=by
 cases h with
 |con _=>cases v<;>first|rfl|cases e
 |any _=>cases e
 |abs k h=>
  obtain⟨a,rfl⟩:=q0f h
  rfl
 |_=>rfl
theorem St.inst(S:St X f σ s.heap){a d C:Addr}{es:List DictEntry}{k:Nat}(h1:f a=some (instObj C d))(h2:f d=some {cls:=.type "dict",data:=.dict es.toArray k}):InstAt s.heap a (instObj C d) C (some (dictOf es k)):=
 ⟨S.isIn _ _ h1,rfl,rfl,S.isIn _ _ h2⟩
set_option tactic.hygienic true in
theorem p0s{x:V}{v:Value}{C:Addr}{fs:List (Str × V)}(hv:VR X f v x)(e:objV x=some (C,fs)):VR X f v (.obj C fs):=by
 unfold objV at e
 split at e
 ·cases e;exact hv
 ·split at e
  ·rename_i d _ _ h
   cases e
   cases hv using VR.eAbs with
   |abs k hv=>rw[h] at hv;exact hv
  ·cases e
 ·cases e
set_option tactic.hygienic true in
theorem v0m{x y:V}{v:Value}{a:Str}{ex:Bool}(EK:EcOK X K)(S:St X f σ s.heap)(hv:VR X f v x)(e:attrV K x a=some y):Tr X A (getAttr v a ex) f σ s y σ:=by
 intro Q E hQ
 unfold attrV at e
 split at e
 ·rename_i C fs ho
  cases p0s hv ho with
  | @obj b d _ es k _ h1 h2 hd=>
  have I:=S.inst h1 h2
  split at e
  ·rename_i z hz
   split at e
   ·rename_i l hl
    split at e
    ·rename_i q
     cases e
     simp only [Bool.and_eq_true] at q
     obtain⟨v,g1,g2⟩:=j0q hd hz
     obtain⟨p1,p2⟩:=EK.absent _ (b0h hl)
     obtain⟨p3,p4⟩:=p2 _ (d0r q.1)
     exact get_value S.kin I (plainGet_of p3).1 (findObj_own p1 p4 rfl (by rw[lookIn_dict];exact g1)) (n0p g2 q.2) (here S hQ g2)
    ·cases e
   ·cases e
  ·rename_i hz
   split at e
   ·rename_i l hl
    obtain⟨p1,p2⟩:=EK.cval _ (b0h hl)
    obtain⟨p3,v,p4,p5,p6,p7,p8⟩:=p2 _ (c0u e)
    exact get_value S.kin I (plainGet_of p3).1 (findObj_cls p1 p4 p5 p6 p7 (by rw[lookIn_dict];exact i0u hd hz)) p6 (here S hQ (p8 f S.base))
   ·cases e
 ·cases e
set_option tactic.hygienic true in
theorem u0t{x:V}{v:Value}{a:Str}{g:Addr}{pl:Sem Bool}{Q:Value × List Value->Shared->Prop}{E:Value->Shared->Prop}(EK:EcOK X K)(S:St X f σ s.heap)(hv:VR X f v x)(e:methV K x a=some g)(h:Q (.ref g,[v]) s):
  wpAny X.M A (getMethod v a pl) Q E s:=by
 unfold methV at e
 split at e
 ·rename_i C fs ho
  cases p0s hv ho with
  | @obj b d _ es k _ h1 h2 hd=>
  have I:=S.inst h1 h2
  split at e
  ·cases e
  ·rename_i hz
   split at e
   ·rename_i l hl
    obtain⟨p1,p2,p3⟩:=EK.meth _ (b0h hl) _ (c0u e)
    exact method_fn S.kin I (plainGet_of p1).1 (plainGet_of p1).2 p2 (beq_iff_eq.mp p3) (by show(lookIn a (dictOf es k)).map _=_;rw[lookIn_dict,i0u hd hz];rfl) h
   ·cases e
 ·cases e
end
noncomputable def plainArg:Expr->Bool
 | .Starred _ _=>false
 |_=>true
theorem f0z{e:Expr}{rest:List Expr}{env:Env}(h:plainArg e=true):starEach (e::rest) env=(false,eval e env)::starEach rest env:=by
 cases e<;>first|rfl|cases h
noncomputable def allPlain:List Expr->Bool
 |[]=>true
 |e::r=>match plainArg e with
  |true=>allPlain r
  |false=>false
noncomputable abbrev treesOf(l:List Expr)(env:Env):List (Bool × Sem Value):=l.map λe=>(false,eval e env)
theorem a0k{env:Env}{pos:Pos}:∀{l:List Expr},allPlain l=true->backTo pos (starEach l env)=treesOf l env
 |[],_=>rfl
 |e::r,h=>by
  unfold allPlain at h
  cases q:plainArg e with
  |false=>rw[q] at h;cases h
  |true=>
   rw[q] at h
   rw[f0z q]
   show(false,eval e env)::backTo pos (starEach r env)=_
   rw[a0k h]
   rfl
theorem d0c(l:List Expr)(env:Env):(treesOf l env).any (·.1)=false:=by
 induction l with
 |nil=>rfl
 |cons e r ih=>exact ih
noncomputable def CW(X:Cx)(v:Value):Prop:=∀(A:Around)(E:Value->Shared->Prop)(s:Shared)(pos:Pos)(first:List Value)(args:List (Bool × Sem Value))(Q:Value->Shared->Prop),args.any (·.1)=false->
 wpAny X.M A (evalArgs v true args []) (λa s₁=>X.K.In s₁.heap∧wpAny X.M A (call v (first++a.pos) a.kw) Q E s₁) E s->wpAny X.M A (callWith pos v first args []) Q E s
noncomputable def FnV(X:Cx)(n:Nat)(v:Value)(xs:List V)(σ:Gs)(y:V)(σ':Gs):Prop:=
 CW X v∧∀(A:Around)(f:FH)(s:Shared)(vs:List Value),Room X A n->St X f σ s.heap->VRs X f vs xs->Tr X A (call v vs) f σ s y σ'
theorem e0u{X:Cx}{v:Value}(h:keepIn X.K v=true):CW X v:=λA E s pos first args Q hp hq=>
 callWith_of (by rw[hp];rfl) (keeps_K h) hq
theorem a0l{X:Cx}{id:String}:CW X (.builtin id):=λA E s pos first args Q hp hq=>
 callWith_builtin hp (wpAny_mono hq (λa s₁ h=>h.2) λx0 x0 x=>x)
theorem c0g{X:Cx}{T:String}:CW X (.type T):=λA E s pos first args Q hp hq=>
 PySem.callWith_type hp (wpAny_mono hq (λa s₁ h=>h.2) λx0 x0 x=>x)
section
variable {X:Cx} {A:Around} {f:FH} {σ σ₁ σ₂:Gs} {s:Shared}
theorem a0n{v:Value}{l:List (Bool × Sem Value)}{Q:Args->Shared->Prop}{E:Value->Shared->Prop}(hp:∀x∈l,x.1=false)(h:wpAny X.M A (spliced l) (λvs s'=>Q ⟨vs,[]⟩ s') E s):wpAny X.M A (evalArgs v true l []) Q E s:=by
 cases l with
 |nil=>
  unfold evalArgs
  show wpAny X.M A (spliced [] >>= _) Q E s
  refine wpAny_bind (wpAny_mono h (λvs s' h'=>wpAny_bind (wpAny_pure ?_)) λx0 x0 x=>x)
  refine wpAny_holding ?_
  exact wpAny_bind (wpAny_pure (wpAny_bind (wpAny_pure (wpAny_pure h'))))
 |cons x r=>
  obtain⟨b,t⟩:=x
  have:b=false:=hp _ (.head _)
  subst this
  exact evalArgs_plain h
end
noncomputable def dropO(x:Str):Option (Str × Ow)->Option (Str × Ow)
 |none=>none
 |some p=>match seq x p.1 with
  |true=>none
  |false=>some p
theorem look1{α:Type}(z:Str)(p:Str × α)(r:List (Str × α)):look z (p::r)=match seq z p.1 with|true=>some p.2|false=>look z r:=g0h z p.1 p.2 r
theorem b0g(x:Str)(y:V)(l:Vars)(z:Str):look z ((x,y)::l)=if z=x then some y else look z l:=by
 rw[look1]
 cases k:seq z x with
 |true=>rw[if_pos ((a0h _ _).mp k)]
 |false=>
  have:¬z=x:=λq=>by rw[(a0h _ _).mpr q] at k;cases k
  rw[if_neg this]
theorem g0i{x z:Str}{ow:Option (Str × Ow)}{o:Ow}(h:dropO x ow=some (z,o)):ow=some (z,o)∧z≠x:=by
 cases ow with
 |none=>cases h
 |some p=>
  unfold dropO at h
  dsimp only at h
  cases q:seq x p.1 with
  |true=>rw[q] at h;cases h
  |false=>
   rw[q] at h
   cases h
   exact⟨rfl,λe=>by rw[(a0h _ _).mpr e.symm] at q;cases q⟩
section
variable {X:Cx} {A:Around} {n:Nat} {env:Env} {n₀:Bs} {vars:Vars} {ow:Option (Str × Ow)} {m cm:Str->Option Value} {f:FH} {σ:Gs} {s:Shared} {h h':Heap} {a:Addr}
theorem St.same(C:∃o,n₀.h₀.get? cStatics=some o)(S:St X f σ h)(K:Kp X n₀.f₀ n₀.h₀ f h)(ha:Fresh X n₀ f a)(hs:Heap.SameBut a h h'):St X f σ h'∧Kp X n₀.f₀ n₀.h₀ f h':=by
 refine⟨⟨S.base,λb o e=> ?_,S.inv.same λb o hg e=> ?_,S.off,S.nolim.sameBut hs ?_⟩,λb o e ng=> ?_,K.le,K.new⟩
 ·have:b≠a:=λq=>by subst q;rw[ha.off] at e;cases e
  exact(hs.2 b this).trans (S.isIn _ _ e)
 ·have:b≠a:=λq=>ha.ng (q▸hg)
  exact(hs.2 b this).trans e
 ·obtain⟨o,e⟩:=C
  exact λq=>by rw[q,ha.at0] at e;cases e
 ·have:b≠a:=λq=>by subst q;rw[ha.at0] at e;cases e
  exact(hs.2 b this).trans (K.keep _ _ e ng)
theorem OR.other{v:Value}{o:Ow}(O:OR X env n₀ f h v o)(hb:b=env.locals∨∃k,(k,b)∈env.cells)(hs:Heap.SameBut b h h'):OR X env n₀ f h' v o:=by
 have ne:∀{a},Own X env n₀ f a->a≠b:=λO q=>hb.elim (λe=>O.2.1 (q.trans e)) λ⟨_,e⟩=>O.2.2 _ e q.symm
 cases o with
 |lst l n=>cases O with|mk a vs k e h1 h2 h3 h4=>exact⟨a,vs,k,e,(hs.2 a (ne h4)).trans h1,h2,h3,h4⟩
 |ins D fs=>cases O with|mk a d es k e h1 h2 h3 h4 h5 h6=>exact⟨a,d,es,k,e,(hs.2 a (ne h4)).trans h1,(hs.2 d (ne h5)).trans h2,h3,h4,h5,h6⟩
 |tot p q=>cases O with|mk a d es k i j vs ws kn ks e h1 h2 h3 h4 h5 h6 h7 o1 o2 o3 o4 nd=>exact⟨a,d,es,k,i,j,vs,ws,kn,ks,e,(hs.2 a (ne o1)).trans h1,(hs.2 d (ne o2)).trans h2,h3,(hs.2 i (ne o3)).trans h4,(hs.2 j (ne o4)).trans h5,h6,h7,o1,o2,o3,o4,nd⟩
noncomputable def kindOk(sc:Scope)(x:Str):Bool:=match look x sc.names with
 |some .local=>true
 |some .cell=>true
 |_=>false
theorem o0j{x:Str}(h:seq x "self"=false):("self":Str)≠x:=λq=>by rw[(a0h x "self").mpr q.symm] at h;cases h
theorem l0w{x z:Str}{v:Option Value}(ne:z≠x):valOf env (λz=>if z=x then v else m z) cm z=valOf env m cm z:=by
 unfold valOf
 split<;>simp[ne]
theorem m0d{x z:Str}{v:Option Value}(ne:z≠x):valOf env m (λz=>if z=x then v else cm z) z=valOf env m cm z:=by
 unfold valOf
 split<;>simp[ne]
theorem c0w(C:Cz X env n₀)(R:Rel X env n₀ f s.heap vars ow m cm)(S:St X f σ s.heap){x:Str}{v:Value}{y:V}(hv:VR X f v y)(hk:kindOk env.scope x=true)(hself:seq x "self"=false)
  {Q:Unit->Shared->Prop}{E:Value->Shared->Prop}(hQ:∀h' t' m' cm',St X f σ h'->Rel X env n₀ f h' ((x,y)::vars) (dropO x ow) m' cm'->valOf env m' cm' x=some v->Q () {s with heap:=h',toks:=t'}):
  wpAny X.M A (storeName env x v) Q E s:=by
 have hkind:env.kindOf x=some .local∨env.kindOf x=some .cell:=by
  unfold kindOk at hk
  rw[c0f] at hk
  show env.scope.names.lookup x=_∨env.scope.names.lookup x=_
  split at hk
  ·rename_i e;exact .inl e
  ·rename_i e;exact .inr e
  ·cases hk
 rcases hkind with hl|hl
 ·refine wpAny_storeName_local hl R.fm.ns (λh' hn hs=> ?_) (by rw[C.kind];rfl)
  obtain⟨S',K'⟩:=S.same C.stat R.kp R.fm.lo hs
  refine hQ h' _ (λz=>if z=x then some v else m z) cm S' ⟨K',λv' e=>(l0w (o0j hself)).trans (R.me v' e),λp hp=>⟨(hs.2 _ (R.fm.lo.pin p hp)).trans (R.pin p hp).1,(R.pin p hp).2⟩,⟨hn,R.fm.lo,λk c hc=> ?_,R.fm.apart,λk c hc=> ?_⟩,λz w e=> ?_,λz o e=> ?_⟩ (by unfold valOf;rw[hl];simp)
  ·exact(R.fm.cell k c hc).sameBut hs (R.fm.above k c (mem_of_lookup hc)).2.1
  ·obtain⟨a1,a2,o,a3⟩:=R.fm.above k c hc
   exact⟨a1,a2,o,(hs.2 _ a2).trans a3⟩
  ·rw[b0g] at e
   by_cases q:z=x
   ·subst q
    rw[if_pos rfl] at e
    cases e
    exact⟨v,by unfold valOf;rw[hl];simp,hv⟩
   ·rw[if_neg q] at e
    obtain⟨u,a1,a2⟩:=R.vars z w e
    refine⟨u,?_,a2⟩
    unfold valOf at a1 ⊢
    split at a1
    ·simp only [if_neg q];exact a1
    ·exact a1
    ·exact a1
    ·cases a1
  ·obtain⟨e1,q⟩:=g0i e
   obtain⟨u,a1,a2⟩:=R.own z o e1
   refine⟨u,?_,a2.other (.inl rfl) hs⟩
   unfold valOf at a1 ⊢
   split at a1
   ·simp only [if_neg q];exact a1
   ·exact a1
   ·exact a1
   ·cases a1
 ·obtain⟨c,hc⟩:=Option.isSome_iff_exists.mp (C.hcl x (.inl hl))
  obtain⟨b1,b2,b3⟩:=R.fm.above x c (mem_of_lookup hc)
  refine wpAny_storeName_cell C.kind hl hc (R.fm.cell x c hc) λh' hcell hs=> ?_
  obtain⟨S',K'⟩:=S.same C.stat R.kp b1 hs
  have cells:∀k d,env.cells.lookup k=some d->h'.IsCell d ((λz=>if z=x then some v else cm z) k):=λk d hd=>by
   by_cases q:k=x
   ·subst q
    rw[hc] at hd;cases hd
    simpa using hcell
   ·simp only [if_neg q]
    exact(R.fm.cell k d hd).sameBut hs λe=>q (name_of_addr R.fm.apart (mem_of_lookup hd) (e▸mem_of_lookup hc))
  refine hQ h' s.toks m (λz=>if z=x then some v else cm z) S' ⟨K',λv' e=>(m0d (o0j hself)).trans (R.me v' e),λp hp=>⟨(hs.2 _ (b1.pin p hp)).trans (R.pin p hp).1,(R.pin p hp).2⟩,⟨R.fm.ns.sameBut hs (Ne.symm b2),R.fm.lo,cells,R.fm.apart,λk d hd=> ?_⟩,λz w e=> ?_,λz o e=> ?_⟩ (by unfold valOf;rw[hl];simp[hc])
  ·obtain⟨a1,a2,o,a3⟩:=R.fm.above k d hd
   refine⟨a1,a2,?_⟩
   by_cases q:d=c
   ·obtain⟨o,ho,_⟩:=hcell;exact⟨o,q▸ho⟩
   ·exact⟨o,(hs.2 _ q).trans a3⟩
  ·rw[b0g] at e
   by_cases q:z=x
   ·subst q
    rw[if_pos rfl] at e
    cases e
    exact⟨v,by unfold valOf;rw[hl];simp[hc],hv⟩
   ·rw[if_neg q] at e
    obtain⟨u,a1,a2⟩:=R.vars z w e
    refine⟨u,?_,a2⟩
    unfold valOf at a1 ⊢
    split at a1
    ·exact a1
    ·simp only [if_neg q];exact a1
    ·simp only [if_neg q];exact a1
    ·cases a1
  ·obtain⟨e1,q⟩:=g0i e
   obtain⟨u,a1,a2⟩:=R.own z o e1
   refine⟨u,?_,a2.other (.inr ⟨x,mem_of_lookup hc⟩) hs⟩
   unfold valOf at a1 ⊢
   split at a1
   ·exact a1
   ·simp only [if_neg q];exact a1
   ·simp only [if_neg q];exact a1
   ·cases a1
end
section
variable {X:Cx} {A:Around} {n:Nat} {env:Env} {n₀:Bs} {vars:Vars} {ow:Option (Str × Ow)} {m cm:Str->Option Value} {f f':FH} {σ:Gs} {s:Shared} {h h' h1 h2:Heap}
theorem Rel.turn(C:Cz X env n₀)(R:Rel X env n₀ f h1 vars ow m cm)(S:St X f σ h1){I:Addr}(hI:(h1.get? I=none∧¬X.G I)∨∃p∈n₀.pins,p.1=I)(he:Heap.ExtBut I h1 h2){B2:Bs}(hf:B2.f₀=n₀.f₀)(hh:B2.h₀=n₀.h₀)
    (hp:∀p∈B2.pins,(p∈n₀.pins∧p.1≠I)∨(p.1=I∧h2.get? I=some p.2))(hm:B2.me=n₀.me:=by rfl):Rel X env B2 f h2 vars ow m cm∧St X f σ h2:=by
 have ng:¬X.G I:=by
  rcases hI with hI|⟨p,hpp,rfl⟩
  ·exact hI.2
  ·exact(R.pin p hpp).2.1
 have h0:n₀.h₀.get? I=none:=by
  rcases hI with hI|⟨p,hpp,rfl⟩
  ·cases q:n₀.h₀.get? I with
   |none=>rfl
   |some o=>have:=R.kp.keep _ _ q ng;rw[hI.1] at this;cases this
  ·exact(R.pin p hpp).2.2.1
 have hF:f I=none:=by
  rcases hI with hI|⟨p,hpp,rfl⟩
  ·cases q:f I with
   |none=>rfl
   |some o=>have:=S.isIn _ _ q;rw[hI.1] at this;cases this
  ·exact(R.pin p hpp).2.2.2
 have ne:∀{a o},Fresh X n₀ f a->h1.get? a=some o->a≠I:=λ{a o} F e=>by
  rcases hI with hI|⟨p,hpp,rfl⟩
  ·exact λq=>by rw[q,hI.1] at e;cases e
  ·exact λq=>F.pin p hpp q.symm
 have fr:∀{a o},Fresh X n₀ f a->h1.get? a=some o->Fresh X B2 f a:=λ{a o} F e=>⟨by rw[hh];exact F.at0,F.ng,F.off,λp q=>by
  rcases hp p q with q|q
  ·exact F.pin p q.1
  ·rw[q.1];exact(ne F e).symm⟩
 have k:∀{a o},Fresh X n₀ f a->h1.get? a=some o->h2.get? a=some o:=λ{a o} F e=>he _ _ (ne F e) e
 refine⟨R.map ⟨λb o e g=> ?_,hf▸R.kp.le,hf▸hh▸R.kp.new⟩ hm (λp hp'=> ?_) (.refl f) λa o F e=>⟨k F e,fr F e⟩,⟨S.base,λb o e=> ?_,S.inv.same λb o g e=> ?_,S.off,?_⟩⟩
 ·rw[hh] at e
  exact he _ _ (λq=>Option.some_ne_none _ (e.symm.trans (q▸h0))) (R.kp.keep _ _ e g)
 ·rcases hp p hp' with q|q
  ·have z:=R.pin p q.1
   exact⟨he _ _ q.2 z.1,z.2.1,hh▸z.2.2⟩
  ·rw[q.1]
   exact⟨q.2,ng,hh▸h0,hF⟩
 ·exact he _ _ (λq=>by rw[q,hF] at e;cases e) (S.isIn _ _ e)
 ·exact he _ _ (λq=>ng (q▸g)) e
 ·obtain⟨mc,⟨o,es,ep,e,r⟩,hm⟩:=S.nolim
  obtain⟨o',e'⟩:=C.stat
  exact⟨mc,⟨o,es,ep,he _ _ (λq=>by rw[q,h0] at e';cases e') e,r⟩,hm⟩
noncomputable def seqV.octs:List Nat->List V
 |[]=>[]
 |n::r=>.int (Int.ofNat n)::seqV.octs r
noncomputable def seqV.marks:List Nat->List V
 |[]=>[]
 |n::r=>.str [.c n]::seqV.marks r
noncomputable def seqV.intsFrom(a:Nat):Nat->List V
 |0=>[]
 |n+1=>.int (Int.ofNat a)::seqV.intsFrom (a+1) n
noncomputable def itTy(b:Bool):String:=match b with
 |true=>"str_ascii_iterator"
 |false=>"str_iterator"
inductive ItR(X:Cx)(f:FH)(h:Heap)(I:Addr):List V->Prop
 |lst {l:Addr} {vs:List Value} {n i:Nat} {xs:List V}:f l=some (listOf vs.toArray n)->h.IsListIter I l i->VRs X f (vs.drop i) xs->ItR X f h I xs
 |tup {l:Addr} {vs:List Value} {n i:Nat} {xs:List V}:f l=some (tupOf vs.toArray n)->IsTupIter h I l i->VRs X f (vs.drop i) xs->ItR X f h I xs
 |rng {a n:Nat}:IsRangeIter h I (Int.ofNat a) (Int.ofNat n) 1->ItR X f h I (seqV.intsFrom a n)
 |str {b:Bool} {x:Str} {t:Tok} {i:Nat}:h.IsStrIter I (itTy b) x t i->ItR X f h I (seqV.marks (x.cps.toList.drop i))
 |byt {b:Array UInt8} {t:Tok} {i:Nat}:KBw.IsBytesIter h I b t i->ItR X f h I (seqV.octs ((b.toList.map UInt8.toNat).drop i))
theorem ItR.live{I:Addr}{xs:List V}(h1:ItR X f h I xs):∃o,h.get? I=some o:=by
 cases h1 with
 |lst _ a _=>obtain⟨o,e,_⟩:=a;exact⟨o,e⟩
 |tup _ a _=>obtain⟨o,e,_⟩:=a;exact⟨o,e⟩
 |rng a=>exact⟨_,a⟩
 |str a=>obtain⟨o,e,_⟩:=a;exact⟨o,e⟩
 |byt a=>obtain⟨o,e,_⟩:=a;exact⟨o,e⟩
theorem ItR.keep{I:Addr}{xs:List V}(h1:ItR X f h I xs)(le:f.le f')(k:∀o,h.get? I=some o->h'.get? I=some o):ItR X f' h' I xs:=by
 cases h1 with
 |lst a b c=>exact .lst (le _ _ a) (by obtain⟨o,e,r⟩:=b;exact⟨o,k o e,r⟩) (c.mono le)
 |tup a b c=>exact .tup (le _ _ a) (by obtain⟨o,e,r⟩:=b;exact⟨o,k o e,r⟩) (c.mono le)
 |rng a=>exact .rng (k _ a)
 |str a=>exact .str (by obtain⟨o,e,r⟩:=a;exact⟨o,k o e,r⟩)
 |byt a=>exact .byt (by obtain⟨o,e,r⟩:=a;exact⟨o,k o e,r⟩)
theorem dead(h:Heap):h.get? h.objs.size=none:=Heap.get?_none_of_le (Nat.le_refl _)
theorem pushBut(h:Heap)(o:Obj):Heap.ExtBut h.objs.size h (h.push o):=λx0 x0 x0 e=>Heap.get?_push_of_some _ e
set_option tactic.hygienic true in
noncomputable def IterOK(x:V)(xs:List V):Prop:=∀(X:Cx)(A:Around)(f:FH)(σ:Gs)(s:Shared)(v:Value)(Q:Value->Shared->Prop)(E:Value->Shared->Prop),St X f σ s.heap->VR X f v x->
 (∀I h',s.heap.get? I=none->¬X.G I->Heap.ExtBut I s.heap h'->ItR X f h' I xs->Q (.ref I) {s with heap:=h'})->wpAny X.M A (pyIter v) Q E s
theorem g0v{X:Cx}{f:FH}{σ:Gs}{h:Heap}(S:St X f σ h):¬X.G h.objs.size:=λhg=>Nat.lt_irrefl _ (S.inv.lt _ hg)
theorem x0d{l:List V}{n:Nat}:IterOK (.lst l n) l:=λX A f σ s v Q E S h hQ=>by
 cases h using VR.eLst with
 | @lst a vs k fv rv hn=>exact wpAny_pyIter_list (S.list fv) (hQ _ _ (dead _) (g0v S) (pushBut _ _) (.lst fv ⟨_,Heap.get?_push_size _ rfl,rfl,rfl⟩ rv))
theorem w0n{l:List V}:IterOK (.tup l) l:=λX A f σ s v Q E S h hQ=>by
 cases h using VR.eTup with
 | @tup a vs fv rv=>exact iter_tuple (S.tup fv) (hQ _ _ (dead _) (g0v S) (pushBut _ _) (.tup fv ⟨_,Heap.get?_push_size _ rfl,rfl,rfl⟩ rv))
theorem b1s{d:Dom}{xs:List V}(H:IterOK (den d) xs):IterOK (.abs d) xs:=λX A f σ s v Q E S h hQ=>by
 cases h using VR.eAbs with
 |abs k hv=>exact H X A f σ s v Q E S hv hQ
theorem s0n{n:Nat}(hn:n≤1000):Builtin.Range.small 0 (Int.ofNat n) 1=true:=small_one (by decide) (by decide) (by show -(2 ^ 62)≤(n:Int);lia) (by show(n:Int)<2 ^ 62;lia)
theorem a1w(n:Nat):(if(0:Int)<Int.ofNat n then Int.ofNat n - 0 else 0)=Int.ofNat n:=by
 by_cases h0:(0:Int)<Int.ofNat n
 ·rw[if_pos h0,Int.sub_zero]
 ·rw[if_neg h0]
  exact(Int.le_antisymm (Int.not_lt.mp h0) (Int.natCast_nonneg n)).symm
theorem e1k{n:Nat}(hn:Nat.ble n 1000=true):IterOK (.rng n) (seqV.intsFrom 0 n):=λX A f σ s v Q E S h hQ=>by
 cases h using VR.eRng with
 | @rng a t u v fv=>
 refine wpAny_pyIter_range (S.isIn _ _ fv) (s0n (Nat.le_of_ble_eq_true hn)) (hQ _ _ (dead _) (g0v S) (pushBut _ _) (.rng ?_))
 show Heap.get? _ _=_
 rw[Heap.get?_push_size _ rfl,rangeSize_one,a1w]
 rfl
theorem b1h{l:List Nat}:IterOK (.byt l) (seqV.octs l):=λX A f σ s v Q E S h hQ=>by
 cases h using VR.eByt with
 |byt b t hb=>
 subst hb
 exact KBw.pyIter_bytes (hQ _ _ (dead _) (g0v S) (pushBut _ _) (ItR.byt (b:=b) (t:=t) (i:=0) ⟨_,Heap.get?_push_size _ rfl,rfl,rfl⟩))
theorem c1a{w:Wd}{l:List Nat}(hl:wlit w=some l):IterOK (.str w) (seqV.marks l):=λX A f σ s v Q E S h hQ=>by
 cases h using VR.eStr with
 |str t ho=>
 rw[show l=(wden w).cps.toList by rw[a0i,a0x hl]] at hQ
 cases ha:(wden w).cps.all (· <128)
 ·exact wpAny_pyIter_wide ha (hQ _ _ (dead _) (g0v S) (pushBut _ _) (ItR.str (b:=false) (x:=wden w) (t:=t) (i:=0) ⟨_,Heap.get?_push_size _ rfl,rfl,rfl⟩))
 ·exact wpAny_pyIter_ascii ha (hQ _ _ (dead _) (g0v S) (pushBut _ _) (ItR.str (b:=true) (x:=wden w) (t:=t) (i:=0) ⟨_,Heap.get?_push_size _ rfl,rfl,rfl⟩))
noncomputable def seq0:(x:V)->Option {xs:List V // IterOK x xs}
 | .lst l _=>some ⟨l,x0d⟩
 | .tup l=>some ⟨l,w0n⟩
 |_=>none
noncomputable def seqP:(x:V)->Option {xs:List V // IterOK x xs}
 | .lst l _=>some ⟨l,x0d⟩
 | .tup l=>some ⟨l,w0n⟩
 | .abs d=>mapP (λ_ h=>b1s h) (seq0 (den d))
 | .rng n=>onT (Nat.ble n 1000) λh=>some ⟨seqV.intsFrom 0 n,e1k h⟩
 | .byt l=>some ⟨seqV.octs l,b1h⟩
 | .str w=>onS (wlit w) λl h=>some ⟨seqV.marks l,c1a h⟩
 |_=>none
noncomputable def seqV(x:V):Option (List V):=valO (seqP x)
theorem h0h{v:Value}{x:V}{xs:List V}{Q:Value->Shared->Prop}{E:Value->Shared->Prop}(S:St X f σ s.heap)(hv:VR X f v x)(e:seqV x=some xs)
  (hQ:∀I h',s.heap.get? I=none->¬X.G I->Heap.ExtBut I s.heap h'->ItR X f h' I xs->Q (.ref I) {s with heap:=h'}):wpAny X.M A (pyIter v) Q E s:=a0t (o:=seqP x) e X A f σ s v Q E S hv hQ
theorem i0y{vs:List Value}{i:Nat}{x:V}{xs:List V}(h:VRs X f (vs.drop i) (x::xs)):∃v,vs[i]? =some v∧VR X f v x∧VRs X f (vs.drop (i+1)) xs:=by
 generalize q:vs.drop i=ws at h
 cases h with
 | @cons v _ ws _ hv hr=>
 have e:vs[i]? =some v:=by
  have:=List.getElem?_drop (xs:=vs) (i:=i) (j:=0)
  rw[q] at this
  simpa using this.symm
 refine⟨v,e,hv,?_⟩
 have:vs.drop (i+1)=ws:=by
  rw[←List.drop_drop,q];rfl
 rw[this];exact hr
theorem r0b{l:List Nat}{i:Nat}{x:V}{xs:List V}(q:x::xs=seqV.octs (l.drop i)):∃n,l[i]? =some n∧x= .int (Int.ofNat n)∧xs=seqV.octs (l.drop (i+1)):=by
 have:=List.getElem?_drop (xs:=l) (i:=i) (j:=0)
 rw[←List.drop_drop]
 cases e:l.drop i with
 |nil=>rw[e] at q;cases q
 |cons n r=>
  rw[e] at q this
  cases q
  exact⟨n,by simpa using this.symm,rfl,rfl⟩
theorem n0b{l:List Nat}{i:Nat}{x:V}{xs:List V}(q:x::xs=seqV.marks (l.drop i)):∃n,l[i]? =some n∧x= .str [.c n]∧xs=seqV.marks (l.drop (i+1)):=by
 have:=List.getElem?_drop (xs:=l) (i:=i) (j:=0)
 rw[←List.drop_drop]
 cases e:l.drop i with
 |nil=>rw[e] at q;cases q
 |cons n r=>
  rw[e] at q this
  cases q
  exact⟨n,by simpa using this.symm,rfl,rfl⟩
theorem h0z{I:Addr}{x:V}{xs:List V}{Q:Option Value->Shared->Prop}{E:Value->Shared->Prop}(S:St X f σ s.heap)(h1:ItR X f s.heap I (x::xs))
  (hQ:∀v h' t',VR X f v x->Heap.SameBut I s.heap h'->ItR X f h' I xs->Q (some v) {s with heap:=h',toks:=t'}):wpAny X.M A (pyNext (.ref I)) Q E s:=by
 generalize q:x::xs=ys at h1
 cases h1 with
 |lst a b c=>
  subst q
  obtain⟨v,e,hv,hr⟩:=i0y c
  exact wpAny_pyNext_list_item b (S.list a) (by simpa using e) λh' hit hs=>hQ v h' s.toks hv hs (.lst a hit hr)
 |tup a b c=>
  subst q
  obtain⟨v,e,hv,hr⟩:=i0y c
  exact next_tuple_item b (S.tup a) (by simpa using e) λh' hit hs=>hQ v h' s.toks hv hs (.tup a hit hr)
 | @rng a n b=>
  cases n with
  |zero=>cases q
  |succ n=>
   cases q
   refine wpAny_pyNext_range_item b (by show(0:Int)<((n+1:Nat):Int);lia) λh' hit hs=>hQ _ h' _ (.int _ _) hs (.rng ?_)
   have e1:(Int.ofNat a+1:Int)=Int.ofNat (a+1):=rfl
   have e2:(Int.ofNat (n+1) - 1:Int)=Int.ofNat n:=by simp
   rw[e1,e2] at hit
   exact hit
 | @str b x' t i a=>
  obtain⟨n,e,rfl,rfl⟩:=n0b q
  rw[Array.getElem?_toList] at e
  have hv:∀u,VR X f (.str ⟨#[n]⟩ u) (.str [.c n]):=λu=>.str (w:=[.c n]) u ⟨trivial,trivial⟩
  cases b
  ·exact wpAny_pyNext_wide_item a e λh' hit hs=>hQ _ h' _ (hv _) hs (.str (b:=false) hit)
  ·exact wpAny_pyNext_ascii_item a e λh' hit hs=>hQ _ h' _ (hv _) hs (.str (b:=true) hit)
 | @byt b t i a=>
  obtain⟨n,e,rfl,rfl⟩:=r0b q
  rw[List.getElem?_map,Array.getElem?_toList] at e
  obtain⟨c,hc,rfl⟩:=Option.map_eq_some_iff.mp e
  exact KBw.next_item a hc λh' hit hs=>hQ _ h' _ (.int _ _) hs (.byt hit)
theorem l0e{I:Addr}{Q:Option Value->Shared->Prop}{E:Value->Shared->Prop}(hh:A.handled=none)(S:St X f σ s.heap)(h1:ItR X f s.heap I [])
  (hQ:∀h',Heap.ExtBut I s.heap h'->Q none {s with heap:=h'}):wpAny X.M A (pyNext (.ref I)) Q E s:=by
 generalize q:[]=ys at h1
 cases h1 with
 | @lst l vs n i _ a b c=>
  subst q
  have:vs.length≤i:=by
   have:=c.length
   rw[List.length_drop] at this
   simp at this;lia
  exact wpAny_pyNext_list_end hh b (S.list a) (by simpa using this) hQ
 | @tup l vs n i _ a b c=>
  subst q
  have:vs.length≤i:=by
   have:=c.length
   rw[List.length_drop] at this
   simp at this;lia
  exact next_tuple_end hh b (S.tup a) (by simpa using this) hQ
 | @rng a n b=>
  cases n with
  |zero=>exact wpAny_pyNext_range_end hh b (by simp) hQ
  |succ n=>cases q
 | @str b x' t i a=>
  have hn:x'.cps[i]? =none:=by
   cases e:x'.cps.toList.drop i with
   |nil=>have:=List.drop_eq_nil_iff.mp e;simpa using this
   |cons n r=>rw[e] at q;cases q
  cases b
  ·exact wpAny_pyNext_wide_end hh a hn hQ
  ·exact wpAny_pyNext_ascii_end hh a hn hQ
 | @byt b t i a=>
  refine KBw.next_end hh a ?_ hQ
  cases e:(b.toList.map UInt8.toNat).drop i with
  |nil=>have:=List.drop_eq_nil_iff.mp e;simpa using this
  |cons n r=>rw[e] at q;cases q
end
noncomputable def freesL:List (Str × NameKind)->List Str
 |[]=>[]
 |p::r=>match p.2 with
  | .free=>p.1::freesL r
  |_=>freesL r
noncomputable def nodupS:List Str->Bool
 |[]=>true
 |x::r=>match memS x r with
  |true=>false
  |false=>nodupS r
theorem k0b{x:Str}:∀{l:List Str},x∈l->memS x l=true
 |y::r,h=>by
  rw[w0d]
  cases q:seq x y with
  |true=>rfl
  |false=>
   rcases List.mem_cons.mp h with rfl|h
   ·rw[(a0h x x).mpr rfl] at q;cases q
   ·exact k0b h
theorem d0z:∀{l:List Str},nodupS l=true->l.Nodup
 |[],_=>.nil
 |x::r,h=>by
  unfold nodupS at h
  cases q:memS x r with
  |true=>rw[q] at h;cases h
  |false=>
   rw[q] at h
   exact List.nodup_cons.mpr ⟨λhm=>absurd ((k0b hm).symm.trans q) (by decide),d0z h⟩
noncomputable def keepF(fs:List Str):Vars->Vars
 |[]=>[]
 |p::r=>match memS p.1 fs with
  |true=>p::keepF fs r
  |false=>keepF fs r
theorem e0n{fs:List Str}{x:Str}{y:V}:∀{l:Vars},look x (keepF fs l)=some y->x∈fs∧look x l=some y
 |[],h=>by cases h
 |p::r,h=>by
  unfold keepF at h
  rw[look1]
  cases q:memS p.1 fs with
  |true=>
   rw[q] at h
   dsimp only at h
   rw[look1] at h
   cases k:seq x p.1 with
   |true=>
    rw[k] at h
    refine⟨?_,h⟩
    rw[(a0h _ _).mp k];exact d0r q
   |false=>rw[k] at h;exact e0n h
  |false=>
   rw[q] at h
   obtain⟨a,b⟩:=e0n h
   refine⟨a,?_⟩
   cases k:seq x p.1 with
   |true=>
    rw[←(a0h _ _).mp k,k0b a] at q
    exact absurd q (by decide)
   |false=>exact b
noncomputable def noCells(whole:List (Str × NameKind)):List (Str × NameKind)->Bool
 |[]=>true
 |p::r=>match p.2 with
  | .cell=>false
  | .local=>match look p.1 whole with
   |some .local=>noCells whole r
   |_=>false
  |_=>noCells whole r
noncomputable def outerOk(sc:Scope):List Str->Bool
 |[]=>true
 |z::r=>match look z sc.names with
  |some .cell=>outerOk sc r
  |some .free=>outerOk sc r
  |_=>false
noncomputable def allFree(whole:List (Str × NameKind)):List Str->Bool
 |[]=>true
 |z::r=>match look z whole with
  |some .free=>allFree whole r
  |_=>false
noncomputable def isFun(sc:Scope):Bool:=match sc.kind with
 | .function=>true
 |_=>false
noncomputable def compOk(sc' sc:Scope)(x:Str):Bool:=match isFun sc',noCells sc'.names sc'.names,nodupS (freesL sc'.names),outerOk sc (freesL sc'.names),allFree sc'.names (freesL sc'.names),look x sc'.names with
 |true,true,true,true,true,some .local=>true
 |_,_,_,_,_,_=>false
noncomputable def evItems(r:V->Gs->Option (V × Gs)):List V->Gs->Option (List V × Gs)
 |[],σ=>some ([],σ)
 |x::xs,σ=>match r x σ with
  |some (y,σ₁)=>match evItems r xs σ₁ with
   |some (ys,σ₂)=>some (y::ys,σ₂)
   |none=>none
  |none=>none
noncomputable abbrev clE(env:Env)(fs:List Str):List (Str × Addr):=fs.map λz=>(z,(env.cells.lookup z).getD 0)
theorem e0h{env:Env}:∀(names:List (Str × NameKind))(cs:List (Str × Addr)),(∀z∈freesL names,(env.cells.lookup z).isSome=true)->
  (forIn names cs λ(x:Str × NameKind)(cs:List (Str × Addr))=>if(x.2==NameKind.free)=true then do let a ←cellOf env x.1;pure (ForInStep.yield ((x.1,a)::cs)) else pure (ForInStep.yield cs))=(pure ((clE env (freesL names)).reverse++cs):Sem _)
 |[],cs,_=>by rw[List.forIn_nil];rfl
 |(z,k)::r,cs,h=>by
  rw[List.forIn_cons]
  by_cases hk:k= .free
  ·subst hk
   have e:freesL ((z,NameKind.free)::r)=z::freesL r:=rfl
   rw[e] at h ⊢
   obtain⟨c,hc⟩:=Option.isSome_iff_exists.mp (h z (.head _))
   rw[if_pos (show((z,NameKind.free).snd==NameKind.free)=true from rfl)]
   have:cellOf env z=pure c:=by unfold cellOf;rw[hc]
   rw[this]
   simp only [pure_bind]
   rw[e0h r _ λy hy=>h y (.tail _ hy)]
   simp[clE,hc]
  ·have e:freesL ((z,k)::r)=freesL r:=by cases k<;>first|rfl|exact absurd rfl hk
   rw[e] at h ⊢
   have e2:(k==NameKind.free)=false:=by cases k<;>first|rfl|exact absurd rfl hk
   rw[if_neg (by rw[e2];decide)]
   rw[pure_bind]
   exact e0h r cs h
theorem d0y{scope:Scope}{env:Env}(h:∀z∈freesL scope.names,(env.cells.lookup z).isSome=true):closureFor scope env=pure ((clE env (freesL scope.names)).reverse):=by
 have:=e0h (env:=env) scope.names [] h
 rw[List.append_nil] at this
 unfold closureFor
 exact(congrArg (λt=>t >>= λcs=>pure cs) this)
theorem g0f{z:Str}:∀{names:List (Str × NameKind)},(z,NameKind.free)∈names->z∈freesL names
 |(y,k)::r,h=>by
  rcases List.mem_cons.mp h with e|h
  ·cases e;exact .head _
  ·have:=g0f h
   cases k<;>first|exact this|exact .tail _ this
theorem e0g{sc:Scope}:∀{fs:List Str},outerOk sc fs=true->∀z∈fs,sc.names.lookup z=some .cell∨sc.names.lookup z=some .free
 |y::r,h,z,hz=>by
  unfold outerOk at h
  rw[c0f] at h
  split at h
  ·rename_i e
   rcases List.mem_cons.mp hz with rfl|hz
   ·exact .inl e
   ·exact e0g h z hz
  ·rename_i e
   rcases List.mem_cons.mp hz with rfl|hz
   ·exact .inr e
   ·exact e0g h z hz
  ·cases h
theorem g0m{whole:List (Str × NameKind)}:∀{fs:List Str},allFree whole fs=true->∀z∈fs,whole.lookup z=some .free
 |y::r,h,z,hz=>by
  unfold allFree at h
  rw[c0f] at h
  split at h
  ·rename_i e
   rcases List.mem_cons.mp hz with rfl|hz
   ·exact e
   ·exact g0m h z hz
  ·cases h
set_option tactic.hygienic true in
theorem i0r{whole r:List (Str × NameKind)}{y:Str}{k:NameKind}(h:noCells whole ((y,k)::r)=true):noCells whole r=true∧k≠.cell∧(k= .local->whole.lookup y=some .local):=by
 unfold noCells at h
 dsimp only at h
 split at h
 ·cases h
 ·rw[c0f] at h
  split at h
  ·rename_i e;exact⟨h,λq=>(nomatch q),λx0=>e⟩
  ·cases h
 ·rename_i h1 h2;exact⟨h,h1,λq=>absurd q h2⟩
theorem e0i{whole:List (Str × NameKind)}:∀{l:List (Str × NameKind)},noCells whole l=true->∀p∈l,p.2≠.cell∧(p.2= .local->whole.lookup p.1=some .local)
 |(y,k)::r,h,p,hp=>by
  obtain⟨a,b,c⟩:=i0r h
  rcases List.mem_cons.mp hp with e|hp'
  ·rw[e];exact⟨b,c⟩
  ·exact e0i a p hp'
structure CompFacts(scope sc:Scope)(x:Str):Prop where
 kind:scope.kind= .function
 nocell:∀y∈scope.names,y.2≠.cell
 names:∀y∈scope.names,y.2= .local->scope.names.lookup y.1=some .local
 nodup:(freesL scope.names).Nodup
 outer:∀z∈freesL scope.names,sc.names.lookup z=some .cell∨sc.names.lookup z=some .free
 free:∀z∈freesL scope.names,scope.names.lookup z=some .free
 loc:scope.names.lookup x=some .local
theorem d0q{scope sc:Scope}{x:Str}(h:compOk scope sc x=true):CompFacts scope sc x:=by
 unfold compOk at h
 split at h
 ·rename_i h1 h2 h3 h4 h5 h6
  refine⟨?_,λy hy=>(e0i h2 y hy).1,λy hy=>(e0i h2 y hy).2,d0z h3,e0g h4,g0m h5,by rw[c0f] at h6;exact h6⟩
  unfold isFun at h1
  split at h1
  ·assumption
  ·cases h1
 ·cases h
theorem g0d{g:Str × NameKind->NameKind}{names:List (Str × NameKind)}{z:Str}:(names.map λp=>(p.1,g p)).lookup z=match names.find? (λp=>z==p.1) with
 |some p=>some (g p)
 |none=>none:=by
 induction names with
 |nil=>rfl
 |cons p r ih=>
  rw[List.map_cons,List.lookup_cons,List.find?_cons]
  cases h:z==p.1 with
  |true=>rfl
  |false=>exact ih
theorem k0c{names:List (Str × NameKind)}{z:Str}:names.lookup z=match names.find? (λp=>z==p.1) with
 |some p=>some p.2
 |none=>none:=by
 induction names with
 |nil=>rfl
 |cons p r ih=>
  rw[List.lookup_cons,List.find?_cons]
  cases h:z==p.1 with
  |true=>rfl
  |false=>exact ih
theorem d0s(scope:Scope)(env:Env):(relabel scope env).names=scope.names.map λp=>(p.1,if(p.2== .free&&env.scope.kind== .function&&env.kindOf p.1==some .cell) then NameKind.cell else p.2):=by
 unfold relabel
 dsimp only
 congr 1
 funext p
 obtain⟨n,k⟩:=p
 dsimp only
 split<;>rfl
set_option tactic.hygienic true in
theorem j0k{scope:Scope}{env:Env}{z:Str}(h:scope.names.lookup z=some .free):(relabel scope env).names.lookup z=some .cell∨(relabel scope env).names.lookup z=some .free:=by
 rw[d0s,g0d]
 rw[k0c] at h
 split at h
 ·rename_i p e
  have q:p.2= .free:=Option.some.inj h
  rw[q]
  split
  ·exact .inl rfl
  ·exact .inr rfl
 ·cases h
theorem i0t{scope:Scope}{env:Env}{z:Str}(hn:∀y∈scope.names,y.2≠.cell)(h:(relabel scope env).names.lookup z=some .cell∨(relabel scope env).names.lookup z=some .free):(z,NameKind.free)∈scope.names:=by
 rw[d0s,g0d] at h
 cases e:scope.names.find? (λp=>z==p.1) with
 |none=>rw[e] at h;simp at h
 |some p=>
  rw[e] at h
  dsimp only at h
  have hz:z=p.1:=beq_iff_eq.mp (List.find?_some (p:=λp:Str × NameKind=>z==p.1) e)
  have hp:=List.mem_of_find?_eq_some e
  have:p.2= .free:=by
   rcases h with h|h
   ·split at h
    ·rename_i q
     simp only [Bool.and_eq_true,beq_iff_eq] at q
     exact q.1.1
    ·exact absurd (Option.some.inj h) (hn p hp)
   ·split at h
    ·cases h
    ·exact Option.some.inj h
  rw[hz,←this];exact hp
theorem g0p{g:Str->Addr}{z:Str}:∀{l:List Str},(l.map λy=>(y,g y)).lookup z=if z∈l then some (g z) else none
 |[]=>by simp
 |y::r=>by
  rw[List.map_cons,List.lookup_cons]
  by_cases h:z=y
  ·subst h;simp
  ·rw[show(z==y)=false from beq_eq_false_iff_ne.mpr h]
   dsimp only
   rw[g0p (l:=r)]
   simp[h]
section
variable {X:Cx} {A:Around} {n:Nat} {env:Env} {n₀:Bs} {vars:Vars} {ow:Option (Str × Ow)} {m cm:Str->Option Value} {f f₁:FH} {σ σ₁:Gs} {s:Shared} {h h' hs:Heap} {scope:Scope} {x:Str}
noncomputable abbrev cellsC(scope:Scope)(env:Env):List (Str × Addr):=(clE env (freesL scope.names)).reverse
theorem c0r{z:Str}:(cellsC scope env).lookup z=if z∈freesL scope.names then some ((env.cells.lookup z).getD 0) else none:=by
 show((List.map _ (freesL scope.names)).reverse).lookup z=_
 rw[←List.map_reverse,g0p]
 simp
theorem b0v(C:Cz X env n₀)(F:CompFacts scope env.scope x):∀z∈freesL scope.names,(env.cells.lookup z).isSome=true:=λz hz=>C.hcl z (F.outer z hz)
theorem k0a(C:Cz X env n₀)(F:CompFacts scope env.scope x)(L:Addr):Cz X (compEnvC scope (cellsC scope env) L env) n₀:=
 ⟨F.kind,C.glob,C.blt,C.stat,λz hz=>by
  have:=g0f (i0t (env:=env) F.nocell hz)
  show((cellsC scope env).lookup z).isSome=true
  rw[c0r,if_pos this];rfl⟩
theorem Rel.comp(C:Cz X env n₀)(F:CompFacts scope env.scope x)(R:Rel X env n₀ f₁ hs vars ow m cm)(S:St X f₁ σ hs)(K:Kp X f₁ hs f h){L:Addr}(hL:hs.get? L=none)(gL:¬X.G L)(fL:f L=none){mC:Str->Option Value}(hn:h.Ns L mC)
  {v:Value}{y:V}(hv:VR X f v y)(hx:mC x=some v):Rel X (compEnvC scope (cellsC scope env) L env) {n₀ with me:=none} f h ((x,y)::keepF (freesL scope.names) vars) none mC cm:=by
 have R':=R.kp' K
 have ne:∀{b o},hs.get? b=some o->b≠L:=λ{b o} e q=>by rw[q,hL] at e;cases e
 refine⟨R'.kp,(λv e=>by cases e),R'.pin,⟨hn,⟨?_,gL,fL,λp hp=>ne (R.pin p hp).1⟩,λz c e=> ?_,?_,λz c e=> ?_⟩,λz w e=> ?_,λz o e=>by cases e⟩
 ·cases q:n₀.h₀.get? L with
  |none=>exact q
  |some o=>have:=R.kp.keep _ _ q gL;rw[hL] at this;cases this
 ·rw[show(compEnvC scope (cellsC scope env) L env).cells=cellsC scope env from rfl,c0r] at e
  split at e
  ·rename_i hz
   obtain⟨c',hc⟩:=Option.isSome_iff_exists.mp (b0v C F z hz)
   rw[hc] at e
   cases e
   exact R'.fm.cell z c' hc
  ·cases e
 ·show(cellsC scope env).Pairwise _
  show((List.map _ (freesL scope.names)).reverse).Pairwise _
  rw[←List.map_reverse,List.pairwise_map]
  refine List.Pairwise.imp_of_mem (S:=λa b=>((env.cells.lookup a).getD 0)≠((env.cells.lookup b).getD 0)) (R:=λa b=>a≠b) (λ{a b} ha hb hab q=> ?_) ((List.reverse_perm _).nodup_iff.mpr F.nodup)
  obtain⟨ca,hca⟩:=Option.isSome_iff_exists.mp (b0v C F a (List.mem_reverse.mp ha))
  obtain⟨cb,hcb⟩:=Option.isSome_iff_exists.mp (b0v C F b (List.mem_reverse.mp hb))
  rw[hca,hcb] at q
  have q:ca=cb:=q
  exact hab (name_of_addr R.fm.apart (mem_of_lookup hca) (q▸mem_of_lookup hcb))
 ·have e:(z,c)∈cellsC scope env:=e
  have e':=List.mem_reverse.mp e
  obtain⟨z',hz',q⟩:=List.mem_map.mp e'
  cases q
  obtain⟨c',hc⟩:=Option.isSome_iff_exists.mp (b0v C F z hz')
  rw[hc]
  obtain⟨a,b,o,d⟩:=R.fm.above z c' (mem_of_lookup hc)
  exact⟨(R'.fm.above z c' (mem_of_lookup hc)).1.me none,ne d,o,K.keep _ _ d a.ng⟩
 ·rw[b0g] at e
  by_cases q:z=x
  ·subst q
   rw[if_pos rfl] at e
   cases e
   refine⟨v,?_,hv⟩
   unfold valOf
   rw[show(compEnvC scope (cellsC scope env) L env).kindOf z=some .local from lookup_relabel_local F.loc]
   exact hx
  ·rw[if_neg q] at e
   obtain⟨e1,e2⟩:=e0n e
   obtain⟨u,a1,a2⟩:=R'.vars z w e2
   refine⟨u,?_,a2⟩
   obtain⟨c',hc⟩:=Option.isSome_iff_exists.mp (b0v C F z e1)
   have a1:cm z=some u:=by
    unfold valOf at a1
    rcases F.outer z e1 with k|k
    ·rw[show env.kindOf z=some .cell from k] at a1;dsimp only at a1;rw[hc] at a1;exact a1
    ·rw[show env.kindOf z=some .free from k] at a1;dsimp only at a1;rw[hc] at a1;exact a1
   unfold valOf
   have hl:(compEnvC scope (cellsC scope env) L env).cells.lookup z=some c':=by
    show(cellsC scope env).lookup z=_
    rw[c0r,if_pos e1,hc];rfl
   rcases j0k (env:=env) (F.free z e1) with k|k
   ·rw[show(compEnvC scope (cellsC scope env) L env).kindOf z=some .cell from k];dsimp only;rw[hl];exact a1
   ·rw[show(compEnvC scope (cellsC scope env) L env).kindOf z=some .free from k];dsimp only;rw[hl];exact a1
theorem St.but(S:St X f σ h)(K:Kp X f₁ hs f h)(hst:∃o,hs.get? cStatics=some o){a:Addr}(h0:hs.get? a=none)(ng:¬X.G a)(hf:f a=none)(he:Heap.ExtBut a h h'):St X f σ h'∧Kp X f₁ hs f h':=by
 refine⟨⟨S.base,λb o e=>he _ _ (λq=>by rw[q,hf] at e;cases e) (S.isIn _ _ e),S.inv.same λb o hg e=>he _ _ (λq=>ng (q▸hg)) e,S.off,?_⟩,λb o e g=>he _ _ (λq=>by rw[q,h0] at e;cases e) (K.keep _ _ e g),K.le,K.new⟩
 obtain⟨mc,⟨o,es,ep,e,r⟩,hm⟩:=S.nolim
 obtain⟨o',e'⟩:=hst
 exact⟨mc,⟨o,es,ep,he _ _ (λq=>by rw[q,h0] at e';cases e') e,r⟩,hm⟩
end
section
variable {X:Cx} {A:Around} {n:Nat} {env:Env} {n₀:Bs} {vars:Vars} {ow:Option (Str × Ow)} {m cm:Str->Option Value} {f f₁:FH} {σ σ₁:Gs} {s:Shared} {h h' hs:Heap} {scope:Scope} {x:Str}
theorem FH.put_le''{f:FH}{a:Addr}{o:Obj}(e:f a=none):f.le (f.put a o):=λb x q=>by
 unfold FH.put
 rw[if_neg (λz=>by subst z;rw[e] at q;cases q)];exact q
theorem f0c{I:Addr}{xs:List V}{Q:Value->Shared->Prop}{E:Value->Shared->Prop}(h1:ItR X f s.heap I xs)(hQ:Q (.ref I) s):wpAny X.M A (pyIter (.ref I)) Q E s:=by
 cases h1 with
 |lst a b c=>exact wpAny_pyIter_listiter b hQ
 |tup a b c=>exact wpAny_pyIter_tupleiter b hQ
 |rng a=>exact wpAny_pyIter_rangeiter a hQ
 | @str b x' t i a=>
  cases b
  ·exact wpAny_pyIter_striter_wide a hQ
  ·exact wpAny_pyIter_striter_ascii a hQ
 |byt a=>exact KBw.pyIter_self a hQ
noncomputable def SndC(X:Cx)(A:Around)(env:Env)(n₀:Bs)(scope:Scope)(cv:V->Vars)(elt:Expr)(r:V->Gs->Option (V × Gs)):Prop:=
 ∀(L:Addr)(m cm:Str->Option Value)(y:V)(σ:Gs)(z:V)(σ':Gs)(f:FH)(s:Shared),r y σ=some (z,σ')->Cz X (compEnvC scope (cellsC scope env) L env) n₀->Rel X (compEnvC scope (cellsC scope env) L env) n₀ f s.heap (cv y) none m cm->
  St X f σ s.heap->Tr X A (eval elt (compEnvC scope (cellsC scope env) L env)) f σ s z σ'
inductive CompI(X:Cx)(σ₂:Gs)(f₁:FH)(hs:Heap)(r:V->Gs->Option (V × Gs))(tot:List V)(I D L:Addr)(s:Shared)(j:Nat)(s':Shared):Prop
 |mk (xs done ys:List V) (vs:List Value) (k:Nat) (σ:Gs) (f:FH) (h:Heap) (mC:Str->Option Value) (t:Nat) (e1:j=xs.length) (e2:s'={s with heap:=h,toks:=t}) (h1:evItems r xs σ=some (ys,σ₂)) (h2:done++ys=tot) (h3:Kp X f₁ hs f h) (h4:St X f σ h) (h5:f I=none) (h6:f D=none) (h7:f L=none)
   (h8:ItR X f h I xs) (h9:h.get? D=some (listOf (List.toArray vs) k)) (h10:VRs X f vs done) (h11:h.Ns L mC)
set_option tactic.hygienic true in
theorem p0l{elt iter:Expr}{px:Pos}{pos:Pos}{I D L:Addr}(hh:A.handled=none)(C:Cz X env n₀)(R:Rel X env n₀ f₁ hs vars ow m cm)(S₁:St X f₁ σ₁ hs)(F:CompFacts scope env.scope x)
  {r:V->Gs->Option (V × Gs)}(HE:SndC X A env {n₀ with me:=none} scope (λy=>(x,y)::keepF (freesL scope.names) vars) elt r)
  (dI:hs.get? I=none)(dD:hs.get? D=none)(dL:hs.get? L=none)(gI:¬X.G I)(gD:¬X.G D)(gL:¬X.G L)(nID:I≠D)(nIL:I≠L)(nDL:D≠L){tot:List V}{σ₂:Gs}{RR:Result->Shared->Prop}(hlen:tot.length≤4000)
  (hR:∀f' h' t' m' vs' k',Kp X f₁ hs f' h'->St X f' σ₂ h'->f' D=none->f' L=none->h'.get? D=some (listOf (List.toArray vs') k')->VRs X f' vs' tot->h'.Ns L m'->RR (.ok .next) {s with heap:=h',toks:=t'}):
  ∀(xs:List V)(done ys:List V)(vs:List Value)(k:Nat)(σ:Gs)(f:FH)(h:Heap)(mC:Str->Option Value)(t:Nat),evItems r xs σ=some (ys,σ₂)->done++ys=tot->Kp X f₁ hs f h->St X f σ h->f I=none->f D=none->f L=none->
   ItR X f h I xs->h.get? D=some (listOf vs.toArray k)->VRs X f vs done->h.Ns L mC->
   codeAny X.M A (.compLoop (.ListComp elt [⟨.Name x px,iter,[],0⟩] scope pos) 0 (.ref I) (.ref D) (compEnvC scope (cellsC scope env) L env)) RR {s with heap:=h,toks:=t}:=by
 intro xs done ys vs k σ f h mC t h1 h2 h3 h4 h5 h6 h7 h8 h9 h10 h11
 have hst:∃o,hs.get? cStatics=some o:=by obtain⟨mc,⟨o,es,ep,e,r⟩,hm⟩:=S₁.nolim;exact⟨o,e⟩
 refine codeAny_compLoop_list (CompI X σ₂ f₁ hs r tot I D L s) ?_ xs.length ⟨xs,done,ys,vs,k,σ,f,h,mC,t,rfl,rfl,h1,h2,h3,h4,h5,h6,h7,h8,h9,h10,h11⟩
 clear h1 h2 h3 h4 h5 h6 h7 h8 h9 h10 h11
 rintro j s' ⟨xs,done,ys,vs,k,σ,f,h,mC,t,rfl,rfl,h1,h2,h3,h4,h5,h6,h7,h8,h9,h10,h11⟩
 cases xs with
 |nil=>
  cases h1
  refine l0e hh h4 h8 λh' he=> ?_
  obtain⟨S',K'⟩:=h4.but h3 hst dI gI h5 he
  rw[List.append_nil] at h2
  subst h2
  exact hR f h' t mC vs k K' S' h6 h7 (he _ _ (Ne.symm nID) h9) h10 (h11.extBut he (Ne.symm nIL))
 |cons y xs=>
  unfold evItems at h1
  split at h1
  case h_2=>cases h1
  rename_i z σa e1
  split at h1
  case h_2=>cases h1
  rename_i zs σb e2
  cases h1
  refine h0z h4 h8 λv h' t' hv hs1 hit=> ?_
  obtain⟨S',K'⟩:=h4.but h3 hst dI gI h5 hs1.extBut
  have n1:h'.Ns L mC:=h11.sameBut hs1 (Ne.symm nIL)
  have d1:h'.get? D=some (listOf vs.toArray k):=(hs1.2 D (Ne.symm nID)).trans h9
  refine wpAny_assign_Name (wpAny_storeName_local (env:=compEnvC scope (cellsC scope env) L env) (lookup_relabel_local F.loc) n1 (λh'' hn hs2=> ?_) (by show((relabel scope env).kind== .class||((relabel scope env).kind== .module&&_))=false;rw[show(relabel scope env).kind= .function from F.kind];rfl))
  obtain⟨S2,K2⟩:=S'.but K' hst dL gL h7 hs2.extBut
  have R2:=R.comp C F S₁ K2 dL gL h7 hn hv (by simp)
  refine HE L _ _ y σ z σa f _ e1 ((k0a C F L).me none) R2 S2 _ _ λw f3 hp3 t3 K3 S3 r3=> ?_
  have d2:h''.get? D=some (listOf vs.toArray k):=(hs2.2 D nDL).trans d1
  have d3:=K3.keep _ _ d2 gD
  have f3D:=K3.off d2 h6
  obtain⟨oI,lI⟩:=hit.live
  have lI2:h''.get? I=some oI:=(hs2.2 I nIL).trans lI
  have f3I:=K3.off lI2 h5
  have f3L:f3 L=none:=by obtain⟨o,_,_,e,_⟩:=hn;exact K3.off e h7
  refine wpAny_list_append_plain (items:=vs.toArray) ⟨_,d3⟩ (λh4' hl hs4=> ?_) ?_
  ·obtain⟨n',hl⟩:=hl
   obtain⟨S4,K4⟩:=S3.but (K2.trans K3) hst dD gD f3D hs4.extBut
   refine⟨xs.length,Nat.lt_succ_self _,xs,done++[z],zs,vs++[w],n',σa,f3,h4',(λz=>if z=x then some v else mC z),t3,rfl,rfl,e2,by simpa using h2,K4,S4,f3I,f3D,f3L,?_,?_,?_,?_⟩
   ·exact hit.keep K3.le λo e=>(hs4.2 I nID).trans (K3.keep _ _ ((hs2.2 I nIL).trans e) gI)
   ·rw[hl];simp
   ·exact(h10.mono K3.le).append (.one r3)
   ·obtain⟨o,es,ep,e,r⟩:=hn
    exact⟨o,es,ep,(hs4.2 L (Ne.symm nDL)).trans (K3.keep _ _ e gL),r⟩
  ·rw[List.size_toArray,h10.length,line24]
   have:done.length+(zs.length+1)=tot.length:=by rw[←h2,List.length_append];rfl
   lia
theorem p0u{elt iter:Expr}{px:Pos}{pos:Pos}{use:Option (Value->Sem Unit)}(hh:A.handled=none)(C:Cz X env n₀)(R:Rel X env n₀ f s.heap vars ow m cm)(F:CompFacts scope env.scope x)
  {r:V->Gs->Option (V × Gs)}(HE:SndC X A env {n₀ with me:=none} scope (λy=>(x,y)::keepF (freesL scope.names) vars) elt r){it:V}(HI:Tr X A (eval iter env) f σ s it σ₁){xs ys:List V}{σ₂:Gs}(hx:seqV it=some xs)(he:evItems r xs σ₁=some (ys,σ₂))
  (hlen:∀v g,VR X g v it->ys.length≤4000)(hset:∀v,foldedSetIterable iter env v=pure v){Q:Value->Shared->Prop}{E:Value->Shared->Prop}
  (hQ:∀D L f' h' t' m',(∃v g,VR X g v it)->Kp X f s.heap f' h'->St X f' σ₂ h'->VR X f' (.ref D) (.lst ys ys.length)->s.heap.get? L=none->¬X.G L->f' L=none->h'.Ns L m'->compPost X.M A E use Q (.ref D) L (.ok .next) {s with heap:=h',toks:=t'}):
  wpAny X.M A (comprehension (.ListComp elt [⟨.Name x px,iter,[],0⟩] scope pos) scope env (firstIterPos [⟨.Name x px,iter,[],0⟩] pos) (newList []) (firstAsync [⟨.Name x px,iter,[],0⟩]) (firstIter [⟨.Name x px,iter,[],0⟩] env) use) Q E s:=by
 refine wpAny_comprehension_free rfl hset (d0y (b0v C F)) F.kind F.names (HI _ _ λv f1 h1 t1 K1 S1 hv=> ?_)
 have R1:=R.kp' K1
 refine h0h (s:={s with heap:=h1,toks:=t1}) S1 hv hx λI h2 dI gI be hit=> ?_
 have hst:∃o,h1.get? cStatics=some o:=by obtain⟨mc,⟨o,es,ep,e,r⟩,hm⟩:=S1.nolim;exact⟨o,e⟩
 have fI:f1 I=none:=by
  exact b0i (λo q=>S1.isIn _ _ q) (show h1.get? I=none from dI)
 obtain⟨S2,K2⟩:=S1.but Kp.refl hst dI gI fI be
 obtain⟨oI,lI⟩:=hit.live
 refine wpAny_newList ?_ (by simp)
 refine wpAny_newFunctionEnv F.nocell (by intro y hy;simp at hy) (λh3 hn hs3=> ?_) F.kind
 dsimp only at hn hs3 ⊢
 have gsz:∀{h:Heap}{σ:Gs}{f:FH},St X f σ h->¬X.G h.objs.size:=λS hg=>Nat.lt_irrefl _ (S.inv.lt _ hg)
 generalize hD:h2.objs.size=D at hn hs3 ⊢
 generalize hH:h2.push {cls:=.type "list",data:=.seq ([]:List Value).toArray}=H at hn hs3 ⊢
 have dD2:h2.get? D=none:=hD▸dead h2
 have gD:¬X.G D:=hD▸gsz S2
 have lD:H.get? D=some (listOf ([]:List Value).toArray 0):=by rw[←hH,←hD];exact Heap.get?_push_size _ rfl
 have up2:∀b o,h2.get? b=some o->H.get? b=some o:=λb o e=>by rw[←hH];exact Heap.get?_push_of_some _ e
 have dead1:∀{a},h2.get? a=none->h1.get? a=none:=λ{a} e=>by
  cases q:h1.get? a with
  |none=>rfl
  |some o=>
   have:=be a o (λz=>by rw[z,show h1.get? I=none from dI] at q;cases q) q
   rw[e] at this;cases this
 have fD:f1 D=none:=by
  exact b0i (λo q=>S2.isIn _ _ q) (dD2)
 have nID:I≠D:=λq=>by rw[q,dD2] at lI;cases lI
 obtain⟨S3,K3⟩:=S2.but K2 hst (dead1 dD2) gD fD (h':=H) λb o x0 e=>up2 b o e
 generalize hL:H.objs.size=L at hn hs3 ⊢
 have dL3:H.get? L=none:=hL▸dead H
 have dL2:h2.get? L=none:=by
  exact b0i (λo q=>up2 _ _ q) (dL3)
 have gL:¬X.G L:=hL▸gsz S3
 have fL:f1 L=none:=by
  exact b0i (λo q=>S3.isIn _ _ q) (dL3)
 have nIL:I≠L:=λq=>by rw[q,dL2] at lI;cases lI
 have nDL:D≠L:=λq=>by rw[q,dL3] at lD;cases lD
 have up3:∀b o,b≠L->H.get? b=some o->h3.get? b=some o:=λb o ne e=>by
  refine(hs3.2 b ne).trans ?_
  exact Heap.get?_push_of_some _ e
 obtain⟨S4,K4⟩:=S3.but K3 hst (dead1 dL2) gL fL (h':=h3) up3
 have hit4:ItR X f1 h3 I xs:=hit.keep (FH.le.refl _) λo e=>up3 _ _ nIL (up2 _ _ e)
 have lD4:=up3 _ _ nDL lD
 have loop:∀t,codeAny X.M A (.compLoop (.ListComp elt [⟨.Name x px,iter,[],0⟩] scope pos) 0 (.ref I) (.ref D) (compEnvC scope (cellsC scope env) L env)) (compPost X.M A E use Q (.ref D) L) {s with heap:=h3,toks:=t}:=by
  intro t
  refine p0l (s:=s) hh C R1 S1 F HE dI (dead1 dD2) (dead1 dL2) gI gD gL nID nIL nDL (hlen _ _ hv) ?_ xs [] ys [] 0 σ₁ f1 h3 _ t he rfl K4 S4 fI fD fL hit4 lD4 .nil hn
  intro f5 h5 t5 m5 vs5 k5 K5 S5 f5D f5L l5 r5 n5
  have le:=FH.put_le'' (o:=listOf vs5.toArray k5) f5D
  refine hQ D L (f5.put D (listOf vs5.toArray k5)) h5 t5 m5 ⟨_,_,hv⟩ ?_ ?_ (.lst (FH.put_self ..) (r5.mono le) (Nat.le_refl _)) ?_ gL ?_ n5
  ·refine⟨λb o e g=>K5.keep _ _ (K1.keep _ _ e g) g,(K1.le.trans K5.le).trans le,λb o e=> ?_⟩
   unfold FH.put at e
   split at e
   ·rename_i q;subst q
    refine .inr ⟨?_,gD⟩
    exact b0i (λo' q=>K1.keep _ _ q gD) (dead1 dD2)
   ·exact(K1.trans K5).new b o e
  ·refine⟨λb o e=>le _ _ (S5.base b o e),λb o e=> ?_,S5.inv,λb hb=> ?_,S5.nolim⟩
   ·unfold FH.put at e
    split at e
    ·rename_i q;subst q;cases e;exact l5
    ·exact S5.isIn _ _ e
   ·unfold FH.put
    rw[if_neg (show b≠D from λq=>gD (by rw[←q];exact hb))];exact S5.off b hb
  ·cases q:s.heap.get? L with
   |none=>rfl
   |some o=>have:=K1.keep _ _ q gL;rw[dead1 dL2] at this;cases this
  ·unfold FH.put
   rw[if_neg (Ne.symm nDL)];exact f5L
 exact codeAny_compStart_list (loop _) (f0c (s:={s with heap:=h3,toks:=_}) hit4 (loop _))
end
structure Kx extends Ec where
 C:Value->List V->Gs->Option (V × Gs)
structure KxOK(X:Cx)(n:Nat)(K:Kx):Prop extends EcOK X K.toEc where
 C:∀v xs σ y σ',K.C v xs σ=some (y,σ')->FnV X n v xs σ y σ'
noncomputable abbrev Res:=Option (V × Gs)
noncomputable def onR{β:Type}(o:Res)(k:(x:V)->(σ₁:Gs)->o=some (x,σ₁)->Option β):Option β:=@Option.rec (V × Gs) (λo=>((x:V)->(σ₁:Gs)->o=some (x,σ₁)->Option β)->Option β) (λ_=>none) (λp=>@Prod.rec V Gs (λp=>((x:V)->(σ₁:Gs)->some p=some (x,σ₁)->Option β)->Option β) (λx y k=>k x y rfl) p) o k
inductive VK:V->Type
 |bo (c:Bool):VK (.bool c)
 |co (g:Value):VK (.con g)
 |oth (v:V):VK v
noncomputable def vv(v:V):VK v:=by
 apply @V.rec VK (λ_=>Unit) (λ_=>Unit) (λ_=>Unit) (λ_=>Unit) (λ_=>Unit)
 all_goals intros
 all_goals first|exact()|exact .bo _|exact .co _|exact .oth _
noncomputable abbrev OnF(T β:Type)(g:T->V)(o:Res):=((c:T)->(σ₁:Gs)->o=some (g c,σ₁)->Option β)->Option β
noncomputable def onB{β:Type}(o:Res)(k:(c:Bool)->(σ₁:Gs)->o=some (.bool c,σ₁)->Option β):Option β:=@Option.rec (V × Gs) (OnF Bool β V.bool) (λ_=>none) (λp=>@Prod.rec V Gs (λp=>OnF Bool β V.bool (some p)) (λx y=>@VK.rec (λx _=>OnF Bool β V.bool (some (x,y))) (λc k=>k c y rfl) (λ_ _=>none) (λ_ _=>none) x (vv x)) p) o k
noncomputable def onC{β:Type}(o:Res)(k:(c:Value)->(σ₁:Gs)->o=some (.con c,σ₁)->Option β):Option β:=@Option.rec (V × Gs) (OnF Value β V.con) (λ_=>none) (λp=>@Prod.rec V Gs (λp=>OnF Value β V.con (some p)) (λx y=>@VK.rec (λx _=>OnF Value β V.con (some (x,y))) (λ_ _=>none) (λc k=>k c y rfl) (λ_ _=>none) x (vv x)) p) o k
noncomputable def notSlice:Expr->Bool
 | .Slice _ _ _ _=>false
 | .Constant _ _ _=>true
 | .Name _ _=>true
 | .BinOp _ _ _ _=>true
 | .Attribute _ _ _=>true
 | .Subscript _ _ _=>true
 | .Call _ _ _ _=>true
 |_=>false
noncomputable def notCall:Expr->Bool
 | .Call _ _ _ _=>false
 |_=>true
theorem i0f{a b:Str}(h:seq a b=false):(a==b)=false:=by
 cases q:a==b with
 |false=>rfl
 |true=>rw[(a0h a b).mpr (beq_iff_eq.mp q)] at h;cases h
noncomputable def okNameP(x:Str):Ok ((x==("__debug__":Str))=false∧(x==("__classdict__":Str))=false):=onF (seq x "__debug__") (λx0=>none) λa=>onF (seq x "__classdict__") (λx0=>none) λb=>okY ⟨i0f a,i0f b⟩
noncomputable def okName(x:Str):Bool:=okO (okNameP x)
theorem a0v{x:Str}(h:okName x=true):(x==("__debug__":Str))=false∧(x==("__classdict__":Str))=false:=c0c h
noncomputable def dum(sc:Scope):Env:={scope:=sc,locals:=0,globals:=0,cells:=[]}
noncomputable def notSet:Expr->Bool
 | .Set _ _ _=>false
 |_=>true
noncomputable def sliceP(i:Expr):Option {k:Int // ∃k1 p1 p2,i= .Slice (some (.Constant (.int k) k1 p1)) none none p2}:=match i with
 | .Slice (some (.Constant (.int k) k1 p1)) none none p2=>some ⟨k,k1,p1,p2,rfl⟩
 |_=>none
noncomputable def oneGenP(gs:List Comprehension):Option {p:Str × Expr // ∃px,gs=[⟨.Name p.1 px,p.2,[],0⟩]}:=match gs with
 |[⟨.Name x px,iter,[],0⟩]=>some ⟨(x,iter),px,rfl⟩
 |_=>none
inductive EK:Expr->Type
 |con (c:Const) (k:Nat) (p:Pos):EK (.Constant c k p)
 |nam (x:Str) (p:Pos):EK (.Name x p)
 |bin (l:Expr) (op:Operator) (e:Expr) (p:Pos):EK (.BinOp l op e p)
 |una (op:UnaryOp) (x:Expr) (p:Pos):EK (.UnaryOp op x p)
 |boo (op:BoolOp) (xs:List Expr) (p:Pos):EK (.BoolOp op xs p)
 |ife (t a b:Expr) (p:Pos):EK (.IfExp t a b p)
 |cmp (l:Expr) (ops:List CmpOp) (rs:List Expr) (p:Pos):EK (.Compare l ops rs p)
 |att (o:Expr) (a:Str) (p:Pos):EK (.Attribute o a p)
 |sub (o i:Expr) (p:Pos):EK (.Subscript o i p)
 |tup (es:List Expr) (k:Nat) (p:Pos):EK (.Tuple es k p)
 |lst (es:List Expr) (p:Pos):EK (.List es p)
 |com (elt:Expr) (gens:List Comprehension) (scope:Scope) (p:Pos):EK (.ListComp elt gens scope p)
 |cal (fe:Expr) (args:List Expr) (kws:List Keyword) (p:Pos):EK (.Call fe args kws p)
 |dic (keys:List (Option Expr)) (vals:List Expr) (p:Pos):EK (.Dict keys vals p)
 |oth (e:Expr):EK e
inductive SK:Stmt->Type
 |pas (p:Pos):SK (.Pass p)
 |bre (p:Pos):SK (.Break p)
 |ret (v:Option Expr) (p:Pos):SK (.Return v p)
 |iff (t:Expr) (a b:List Stmt) (p:Pos):SK (.If t a b p)
 |exp (e:Expr) (p:Pos):SK (.Expr e p)
 |asg (ts:List Expr) (e:Expr) (p:Pos):SK (.Assign ts e p)
 |aug (t:Expr) (op:Operator) (e:Expr) (p:Pos):SK (.AugAssign t op e p)
 |fo (t it:Expr) (a b:List Stmt) (p:Pos):SK (.For t it a b p)
 |whi (t:Expr) (a b:List Stmt) (p:Pos):SK (.While t a b p)
 |oth (s:Stmt):SK s
noncomputable def vw(e:Expr):EK e:=by
 apply @Expr.rec EK (λ_=>Unit) (λ_=>Unit) (λ_=>Unit) (λ_=>Unit) (λ_=>Unit) (λ_=>Unit) (λ_=>Unit) (λ_=>Unit) (λ_=>Unit) (λ_=>Unit) (λ_=>Unit) (λ_=>Unit) (λ_=>Unit) (λ_=>Unit) (λ_=>Unit) (λ_=>Unit) (λ_=>Unit) (λ_=>Unit) (λ_=>Unit) (λ_=>Unit) (λ_=>Unit) (λ_=>Unit) (λ_=>Unit) (λ_=>Unit)
 all_goals intros
 all_goals first|exact()|exact .con .. |exact .nam .. |exact .bin .. |exact .una .. |exact .boo .. |exact .ife .. |exact .cmp .. |exact .att .. |exact .sub .. |exact .tup .. |exact .lst .. |exact .com .. |exact .cal .. |exact .dic .. |exact .oth _
noncomputable def vwS(s:Stmt):SK s:=by
 apply @Stmt.rec (λ_=>Unit) SK (λ_=>Unit) (λ_=>Unit) (λ_=>Unit) (λ_=>Unit) (λ_=>Unit) (λ_=>Unit) (λ_=>Unit) (λ_=>Unit) (λ_=>Unit) (λ_=>Unit) (λ_=>Unit) (λ_=>Unit) (λ_=>Unit) (λ_=>Unit) (λ_=>Unit) (λ_=>Unit) (λ_=>Unit) (λ_=>Unit) (λ_=>Unit) (λ_=>Unit) (λ_=>Unit) (λ_=>Unit) (λ_=>Unit)
 all_goals intros
 all_goals first|exact()|exact .pas .. |exact .bre .. |exact .ret .. |exact .iff .. |exact .exp .. |exact .asg .. |exact .aug .. |exact .fo .. |exact .whi .. |exact .oth _
noncomputable def ekD{M:Expr->Type}(d:∀e,M e)(hn:∀x p,M (.Name x p))(ht:∀es k p,M (.Tuple es k p))(ha:∀o a p,M (.Attribute o a p))(hs:∀o i p,M (.Subscript o i p))(e:Expr):M e:=
 @EK.rec (λe _=>M e) (λ_ _ _=>d _) hn (λ_ _ _ _=>d _) (λ_ _ _=>d _) (λ_ _ _=>d _) (λ_ _ _ _=>d _) (λ_ _ _ _=>d _) ha hs ht (λ_ _=>d _) (λ_ _ _ _=>d _) (λ_ _ _ _=>d _) (λ_ _ _=>d _) d e (vw e)
noncomputable abbrev Rcr:=Scope->Vars->Bool->Expr->Gs->Res
section
variable {X:Cx} {A:Around} {K:Kx} {n:Nat} {env:Env} {n₀:Bs} {vars:Vars} {ow:Option (Str × Ow)} {m cm:Str->Option Value} {r:Expr->Gs->Res}
noncomputable def SndE(X:Cx)(A:Around)(env:Env)(n₀:Bs)(vars:Vars)(ow:Option (Str × Ow))(m cm:Str->Option Value)(r:Expr->Gs->Res):Prop:=
 ∀(e:Expr)(σ:Gs)(x:V)(σ':Gs)(f:FH)(s:Shared),r e σ=some (x,σ')->Rel X env n₀ f s.heap vars ow m cm->St X f σ s.heap->Tr X A (eval e env) f σ s x σ'
noncomputable def SndT(X:Cx)(A:Around)(env:Env)(n₀:Bs)(vars:Vars)(ow:Option (Str × Ow))(m cm:Str->Option Value)(r:Expr->Gs->Res):Prop:=
 ∀(e:Expr)(σ:Gs)(x:V)(σ':Gs)(f:FH)(s:Shared),r e σ=some (x,σ')->Rel X env n₀ f s.heap vars ow m cm->St X f σ s.heap->TrG X A (isTrue e env (eval e env)) f σ s (λx0 c=>x= .bool c) σ'
end
noncomputable def EvsOK(r:Expr->Gs->Res)(es:List Expr)(σ:Gs)(p:List V × Gs):Prop:=p.1.length=es.length∧∀(X:Cx)(A:Around)(env:Env)(n₀:Bs)(vars:Vars)(ow:Option (Str × Ow))(m cm:Str->Option Value),SndE X A env n₀ vars ow m cm r->∀(f:FH)(s:Shared),
 Rel X env n₀ f s.heap vars ow m cm->St X f σ s.heap->TrL X A (spliced (treesOf es env)) f σ s p.1 p.2
noncomputable def evsNil(r:Expr->Gs->Res)(σ:Gs):Option {p:List V × Gs // EvsOK r [] σ p}:=some ⟨([],σ),rfl,λx0 x0 x0 x0 x0 x0 x0 x0 x0 f s R S Q E hQ=>Calls.spliced_nil (hQ [] f s.heap s.toks Kp.refl S .nil)⟩
noncomputable def evsCons(r:Expr->Gs->Res)(e:Expr)(es:List Expr)(σ:Gs)(rc:(σ:Gs)->Option {p:List V × Gs // EvsOK r es σ p}):Option {p:List V × Gs // EvsOK r (e::es) σ p}:=onR (r e σ) λx σ₁ h1=>onP (rc σ₁) λp h=>some ⟨(x::p.1,p.2),congrArg Nat.succ h.1,λX A env n₀ vars ow m cm HR f s R S Q E hQ=>
  Calls.spliced_cons (HR e σ x σ₁ f s h1 R S _ _ λa f1 hp1 t1 K1 S1 r1=>h.2 _ _ _ _ _ _ _ _ HR f1 _ (R.kp' K1) S1 _ _ λb f2 hp2 t2 K2 S2 r2=>hQ (a::b) f2 hp2 t2 (K1.trans K2) S2 (.cons (r1.mono K2.le) r2))⟩
noncomputable def evsP(r:Expr->Gs->Res)(es:List Expr):(σ:Gs)->Option {p:List V × Gs // EvsOK r es σ p}:=@List.rec Expr (λes=>(σ:Gs)->Option {p:List V × Gs // EvsOK r es σ p}) (λσ=>evsNil r σ) (λe es ih σ=>evsCons r e es σ ih) es
noncomputable def evs(r:Expr->Gs->Res)(es:List Expr)(σ:Gs):Option (List V × Gs):=valO (evsP r es σ)
theorem o0n{r:Expr->Gs->Res}{es:List Expr}{σ:Gs}{xs:List V}{σ':Gs}(h:evs r es σ=some (xs,σ')):xs.length=es.length:=(a0t (o:=evsP r es σ) (z:=(xs,σ')) h).1
noncomputable def ChOK(r:Expr->Gs->Res)(a:V)(ops:List CmpOp)(es:List Expr)(σ:Gs)(p:Bool × Gs):Prop:=∀(X:Cx)(A:Around)(env:Env)(n₀:Bs)(vars:Vars)(ow:Option (Str × Ow))(m cm:Str->Option Value)(n:Nat),Room X A n->SndE X A env n₀ vars ow m cm r->∀(pos:Pos)(va:Value)(f:FH)(s:Shared),
 VR X f va a->Rel X env n₀ f s.heap vars ow m cm->St X f σ s.heap->Tr X A (compareChain pos va ops (evalEach es env)) f σ s (.bool p.1) p.2∧TrB X A (testChain pos va ops (evalEach es env)) f σ s p.1 p.2
theorem c0b{X:Cx}{f:FH}{v:Value}{b:Bool}(h:VR X f v (.bool b)):v= .bool b:=h.inv
noncomputable def chOne(r:Expr->Gs->Res)(a:V)(op:CmpOp)(e:Expr)(σ:Gs):Option {p:Bool × Gs // ChOK r a [op] [e] σ p}:=onR (r e σ) λy σ₁ h1=>onP (cmpP op a y) λc h2=>some ⟨(c,σ₁),λX A env n₀ vars ow m cm n hA HR pos va f s rv R S=>
  ⟨λQ E hQ=>chain_last (HR e σ y _ f s h1 R S _ _ λvb f1 hp1 t1 K1 S1 r1=>h2 _ _ _ _ _ _ _ _ S1 hA (rv.mono K1.le) r1 _ _ λvc f2 hp2 t2 K2 S2 r2=>hQ vc f2 hp2 t2 (K1.trans K2) S2 r2),
   λQ E hQ=>test_last (HR e σ y _ f s h1 R S _ _ λvb f1 hp1 t1 K1 S1 r1=>h2 _ _ _ _ _ _ _ _ S1 hA (rv.mono K1.le) r1 _ _ λvc f2 hp2 t2 K2 S2 r2=>by
   rw[c0b r2];exact wpAny_truthy_bool (hQ _ f2 hp2 t2 (K1.trans K2) S2 rfl))⟩⟩
noncomputable def chMore(r:Expr->Gs->Res)(a:V)(op op':CmpOp)(ops:List CmpOp)(e e':Expr)(es:List Expr)(σ:Gs)(rc:(y:V)->(σ:Gs)->Option {p:Bool × Gs // ChOK r y (op'::ops) (e'::es) σ p}):Option {p:Bool × Gs // ChOK r a (op::op'::ops) (e::e'::es) σ p}:=onR (r e σ) λy σ₁ h1=>onP (cmpP op a y) λc h2=>match c,h2 with
  |true,h2=>onP (rc y σ₁) λp h=>some ⟨p,λX A env n₀ vars ow m cm n hA HR pos va f s rv R S=>
   ⟨λQ E hQ=>chain_link (HR e σ y _ f s h1 R S _ _ λvb f1 hp1 t1 K1 S1 r1=>h2 _ _ _ _ _ _ _ _ S1 hA (rv.mono K1.le) r1 _ _ λvc f2 hp2 t2 K2 S2 r2=>by
    rw[c0b r2]
    exact wpAny_truthy_bool ((h _ _ _ _ _ _ _ _ _ hA HR pos vb f2 _ (r1.mono K2.le) ((R.kp' K1).kp' K2) S2).1 _ _ λvd f3 hp3 t3 K3 S3 r3=>hQ vd f3 hp3 t3 ((K1.trans K2).trans K3) S3 r3)),
    λQ E hQ=>test_link (HR e σ y _ f s h1 R S _ _ λvb f1 hp1 t1 K1 S1 r1=>h2 _ _ _ _ _ _ _ _ S1 hA (rv.mono K1.le) r1 _ _ λvc f2 hp2 t2 K2 S2 r2=>by
    rw[c0b r2]
    exact wpAny_truthy_bool ((h _ _ _ _ _ _ _ _ _ hA HR pos vb f2 _ (r1.mono K2.le) ((R.kp' K1).kp' K2) S2).2 _ _ λvd f3 hp3 t3 K3 S3 r3=>hQ vd f3 hp3 t3 ((K1.trans K2).trans K3) S3 r3))⟩⟩
  |false,h2=>some ⟨(false,σ₁),λX A env n₀ vars ow m cm n hA HR pos va f s rv R S=>
   ⟨λQ E hQ=>chain_link (HR e σ y _ f s h1 R S _ _ λvb f1 hp1 t1 K1 S1 r1=>h2 _ _ _ _ _ _ _ _ S1 hA (rv.mono K1.le) r1 _ _ λvc f2 hp2 t2 K2 S2 r2=>by
    rw[c0b r2];exact wpAny_truthy_bool (hQ _ f2 hp2 t2 (K1.trans K2) S2 (.bool _))),
    λQ E hQ=>test_link (HR e σ y _ f s h1 R S _ _ λvb f1 hp1 t1 K1 S1 r1=>h2 _ _ _ _ _ _ _ _ S1 hA (rv.mono K1.le) r1 _ _ λvc f2 hp2 t2 K2 S2 r2=>by
    rw[c0b r2];exact wpAny_truthy_bool (hQ _ f2 hp2 t2 (K1.trans K2) S2 rfl))⟩⟩
noncomputable def chP(r:Expr->Gs->Res):(a:V)->(ops:List CmpOp)->(es:List Expr)->(σ:Gs)->Option {p:Bool × Gs // ChOK r a ops es σ p}
 |a,[op],[e],σ=>chOne r a op e σ
 |a,op::op'::ops,e::e'::es,σ=>chMore r a op op' ops e e' es σ λy σ₁=>chP r y (op'::ops) (e'::es) σ₁
 |_,_,_,_=>none
noncomputable def goB:BoolOp->Bool->Bool
 | .And,c=>c
 | .Or,c=> !c
section
variable {X:Cx} {A:Around} {K:Kx} {n:Nat} {env:Env} {n₀:Bs} {vars:Vars} {ow:Option (Str × Ow)} {m cm:Str->Option Value} {r:Expr->Gs->Res}
theorem r0a(HR:SndE X A env n₀ vars ow m cm r){op:BoolOp}{pos:Pos}{e:Expr}{σ σ₁:Gs}{c:Bool}{f:FH}{s:Shared}(R:Rel X env n₀ f s.heap vars ow m cm)(S:St X f σ s.heap)(h1:r e σ=some (.bool c,σ₁)):Tr X A (eval (.BoolOp op [e] pos) env) f σ s (.bool c) σ₁:=
 λQ E hQ=>BoolOp_one (HR e σ _ _ f s h1 R S Q E hQ)
theorem m0b(HR:SndE X A env n₀ vars ow m cm r){op:BoolOp}{pos:Pos}{e e':Expr}{es:List Expr}{σ σ₁:Gs}{c:Bool}{f:FH}{s:Shared}(R:Rel X env n₀ f s.heap vars ow m cm)(S:St X f σ s.heap)(h1:r e σ=some (.bool c,σ₁))(g:goB op c=false):Tr X A (eval (.BoolOp op (e::e'::es) pos) env) f σ s (.bool c) σ₁:=by
 have H:=HR e σ _ _ f s h1 R S
 cases op with
 |And=>
  cases(show c=false from g)
  exact λQ E hQ=>BoolOp_and (H _ _ λva f1 hp1 t1 K1 S1 r1=>by rw[c0b r1];exact wpAny_truthy_bool (hQ _ f1 hp1 t1 K1 S1 (.bool _)))
 |Or=>
  cases c with
  |false=>cases g
  |true=>exact λQ E hQ=>BoolOp_or (H _ _ λva f1 hp1 t1 K1 S1 r1=>by rw[c0b r1];exact wpAny_truthy_bool (hQ _ f1 hp1 t1 K1 S1 (.bool _)))
theorem t0m(HR:SndE X A env n₀ vars ow m cm r){op:BoolOp}{pos:Pos}{e e':Expr}{es:List Expr}{σ σ₁ σ':Gs}{b c:Bool}{f:FH}{s:Shared}(R:Rel X env n₀ f s.heap vars ow m cm)(S:St X f σ s.heap)(h1:r e σ=some (.bool c,σ₁))(g:goB op c=true)
  (ih:∀f1 s1,Kp X f s.heap f1 s1.heap->St X f1 σ₁ s1.heap->Tr X A (eval (.BoolOp op (e'::es) pos) env) f1 σ₁ s1 (.bool b) σ'):Tr X A (eval (.BoolOp op (e::e'::es) pos) env) f σ s (.bool b) σ':=by
 have H:=HR e σ _ _ f s h1 R S
 cases op with
 |And=>
  cases(show c=true from g)
  exact λQ E hQ=>BoolOp_and (H _ _ λva f1 hp1 t1 K1 S1 r1=>by rw[c0b r1];exact wpAny_truthy_bool (ih f1 {s with heap:=hp1,toks:=t1} K1 S1 _ _ λvd f3 hp3 t3 K3 S3 r3=>hQ vd f3 hp3 t3 (K1.trans K3) S3 r3))
 |Or=>
  cases c with
  |true=>cases g
  |false=>exact λQ E hQ=>BoolOp_or (H _ _ λva f1 hp1 t1 K1 S1 r1=>by rw[c0b r1];exact wpAny_truthy_bool (ih f1 {s with heap:=hp1,toks:=t1} K1 S1 _ _ λvd f3 hp3 t3 K3 S3 r3=>hQ vd f3 hp3 t3 (K1.trans K3) S3 r3))
theorem g0o(HR:SndT X A env n₀ vars ow m cm r){op:BoolOp}{e:Expr}{es:List Expr}{σ σ₁:Gs}{c:Bool}{f:FH}{s:Shared}(R:Rel X env n₀ f s.heap vars ow m cm)(S:St X f σ s.heap)
  (h1:r e σ=some (.bool c,σ₁))(hs:goB op c=false∨es=[]):TrB X A (allTrue op (e::es) env) f σ s c σ₁:=by
 have H:=HR e σ _ _ f s h1 R S
 intro Q E hQ
 show wpAny X.M A (do
  match op,←isTrue e env (eval e env) with
  | .And,false=>pure false
  | .Or,true=>pure true
  |_,_=>allTrue op es env) Q E s
 refine wpAny_bind (H _ _ λva f1 hp1 t1 K1 S1 r1=> ?_)
 obtain rfl:va=c:=by cases r1;rfl
 have hq:=hQ va f1 hp1 t1 K1 S1 rfl
 rcases hs with hs|rfl
 ·cases op<;>cases va<;>first
   |exact wpAny_pure hq
   |cases hs
 ·cases op<;>cases va<;>exact wpAny_pure hq
theorem t0u(HR:SndT X A env n₀ vars ow m cm r){op:BoolOp}{e:Expr}{es:List Expr}{σ σ₁ σ':Gs}{b c:Bool}{f:FH}{s:Shared}(R:Rel X env n₀ f s.heap vars ow m cm)(S:St X f σ s.heap)
  (h1:r e σ=some (.bool c,σ₁))(hs:goB op c=true)(ih:∀f1 s1,Kp X f s.heap f1 s1.heap->St X f1 σ₁ s1.heap->TrB X A (allTrue op es env) f1 σ₁ s1 b σ'):TrB X A (allTrue op (e::es) env) f σ s b σ':=by
 have H:=HR e σ _ _ f s h1 R S
 intro Q E hQ
 show wpAny X.M A (do
  match op,←isTrue e env (eval e env) with
  | .And,false=>pure false
  | .Or,true=>pure true
  |_,_=>allTrue op es env) Q E s
 refine wpAny_bind (H _ _ λva f1 hp1 t1 K1 S1 r1=> ?_)
 obtain rfl:va=c:=by cases r1;rfl
 have ih:=ih f1 {s with heap:=hp1,toks:=t1} K1 S1 Q E λvd f3 hp3 t3 K3 S3 r3=>hQ vd f3 hp3 t3 (K1.trans K3) S3 r3
 cases op<;>cases va<;>first
  |exact ih
  |cases hs
end
noncomputable def BoOK(r:Expr->Gs->Res)(op:BoolOp)(es:List Expr)(σ:Gs)(p:Bool × Gs):Prop:=∀(X:Cx)(A:Around)(env:Env)(n₀:Bs)(vars:Vars)(ow:Option (Str × Ow))(m cm:Str->Option Value)(f:FH)(s:Shared),Rel X env n₀ f s.heap vars ow m cm->St X f σ s.heap->
 (SndE X A env n₀ vars ow m cm r->∀pos,Tr X A (eval (.BoolOp op es pos) env) f σ s (.bool p.1) p.2)∧(SndT X A env n₀ vars ow m cm r->TrB X A (allTrue op es env) f σ s p.1 p.2)
noncomputable def boOne(r:Expr->Gs->Res)(op:BoolOp)(e:Expr)(σ:Gs):Option {p:Bool × Gs // BoOK r op [e] σ p}:=onB (r e σ) λc σ₁ h1=>some ⟨(c,σ₁),λX A env n₀ vars ow m cm f s R S=>⟨λHR pos=>r0a HR R S h1,λHR=>g0o HR R S h1 (.inr rfl)⟩⟩
noncomputable def boMore(r:Expr->Gs->Res)(op:BoolOp)(e e':Expr)(es:List Expr)(σ:Gs)(rc:(σ:Gs)->Option {p:Bool × Gs // BoOK r op (e'::es) σ p}):Option {p:Bool × Gs // BoOK r op (e::e'::es) σ p}:=onB (r e σ) λc σ₁ h1=>onF (goB op c) (λg=>onP (rc σ₁) λp h=>some ⟨p,λX A env n₀ vars ow m cm f s R S=>⟨λHR pos=>t0m HR R S h1 g λf1 s1 K1 S1=>(h _ _ _ _ _ _ _ _ f1 s1 (R.kp' K1) S1).1 HR pos,λHR=>t0u HR R S h1 g λf1 s1 K1 S1=>(h _ _ _ _ _ _ _ _ f1 s1 (R.kp' K1) S1).2 HR⟩⟩)
  λg=>some ⟨(c,σ₁),λX A env n₀ vars ow m cm f s R S=>⟨λHR pos=>m0b HR R S h1 g,λHR=>g0o HR R S h1 (.inl g)⟩⟩
noncomputable def boP(r:Expr->Gs->Res)(op:BoolOp):(es:List Expr)->(σ:Gs)->Option {p:Bool × Gs // BoOK r op es σ p}
 |[],_=>none
 |[e],σ=>boOne r op e σ
 |e::e'::es,σ=>boMore r op e e' es σ (boP r op (e'::es))
section
variable {X:Cx} {A:Around} {K:Kx} {n:Nat} {env:Env} {n₀:Bs} {vars:Vars} {ow:Option (Str × Ow)} {m cm:Str->Option Value} {r:Expr->Gs->Res}
theorem j0p(C:Cz X env n₀)(HR:SndE X A env n₀ vars ow m cm r)(es:List Expr)(σ:Gs)(xs:List V)(σ':Gs)(f:FH)(s:Shared)(e:evs r es σ=some (xs,σ'))(R:Rel X env n₀ f s.heap vars ow m cm)(S:St X f σ s.heap):
  TrL X A (spliced (treesOf es env)) f σ s xs σ':=(a0t (o:=evsP r es σ) (z:=(xs,σ')) e).2 _ _ _ _ _ _ _ _ HR f s R S
end
section
variable {X:Cx} {A:Around} {K:Kx} {n:Nat} {env:Env} {n₀:Bs} {vars:Vars} {ow:Option (Str × Ow)} {m cm:Str->Option Value} {f:FH} {σ σ' σ₁:Gs} {s:Shared}
set_option tactic.hygienic true in
theorem d0a(EK:EcOK X K.toEc)(C:Cz X env n₀)(S:St X f σ s.heap){x:Str}{y:V}(hk:kindG env.scope x=true)(hl:look x K.GT=some y)(hx:okName x=true):Tr X A (loadName env x) f σ s y σ:=by
 intro Q E hQ
 obtain⟨v,g1,g2⟩:=EK.glob _ (c0u hl)
 have hkind:env.kindOf x=some .globalImplicit:=by
  unfold kindG at hk
  rw[c0f] at hk
  show env.scope.names.lookup x=_
  split at hk
  ·assumption
  ·cases hk
 have hq:Q v s:=here' S hQ (g2 f S.base)
 have load:wpAny X.M A (loadGlobal env x) Q E s:=by
  unfold loadGlobal
  rw[C.glob,C.blt]
  unfold globalIn at g1
  split at g1
  ·rename_i v' h1
   cases g1
   exact wpAny_bind ((looks_nsIn S.kin h1).here (wpAny_pure hq))
  ·rename_i h1
   split at g1
   ·rename_i v' h2
    cases g1
    exact wpAny_bind ((looks_nsIn S.kin h1).here (wpAny_bind ((looks_nsIn S.kin h2).here (wpAny_pure hq))))
   ·cases g1
  ·cases g1
 unfold loadName
 simp only [Env.blockKind,C.kind,hkind,ScopeKind.isAnnotationScope,Bool.false_and,Bool.false_eq_true,if_false]
 exact load
end
noncomputable def ConstOK(c:Const)(y:V):Prop:=∀(X:Cx)(A:Around)(env:Env)(f:FH)(σ:Gs)(s:Shared)(k:Nat)(p:Pos),St X f σ s.heap->Tr X A (eval (.Constant c k p) env) f σ s y σ
noncomputable def constP:(c:Const)->Option {y:V // ConstOK c y}
 | .int i=>some ⟨.int i,λx0 x0 x0 x0 x0 x0 x0 x0 S Q E hQ=>wpAny_Constant_int (here S hQ (.int _ _))⟩
 | .str x=>some ⟨.str (wS x),λX x0 x0 f x0 s x0 x0 S Q E hQ=>Constant_str (by
  have:=VR.str (X:=X) (f:=f) s.toks (w:=wS x) (f0g x)
  rw[k0d] at this
  exact here S hQ this)⟩
 | .none=>some ⟨.none,λx0 x0 x0 x0 x0 x0 x0 x0 S Q E hQ=>Constant_none (here' S hQ .none)⟩
 | .bool b=>some ⟨.bool b,λx0 x0 x0 x0 x0 x0 x0 x0 S Q E hQ=>Constant_bool (here' S hQ (.bool _))⟩
 |_=>none
noncomputable def litV(c:Const):Option V:=valO (constP c)
section
variable {X:Cx} {A:Around} {K:Kx} {n:Nat} {env:Env} {n₀:Bs} {vars:Vars} {ow:Option (Str × Ow)} {m cm:Str->Option Value} {f:FH} {σ σ' σ₁:Gs} {s:Shared}
theorem b0t{c:Const}{k:Nat}{p:Pos}{y:V}(S:St X f σ s.heap)(h:litV c=some y):Tr X A (eval (.Constant c k p) env) f σ s y σ:=a0t h _ _ _ _ _ _ _ _ S
theorem f0d{e:Expr}{o i:Value}(h:notSlice e=true):subscripted e false o i=operate [o,i] (getItem o i):=by
 cases e<;>first|rfl|(simp only [subscripted];done)|(cases h;done)
theorem c0l{x:Str}{p pos:Pos}{args:List Expr}{Q:Value->Shared->Prop}{E:Value->Shared->Prop}
  (h:wpAny X.M A (eval (.Name x p) env) (λg s₁=>wpAny X.M A (callWith pos g [] (backTo pos (starEach args env)) []) Q E s₁) E s):
  wpAny X.M A (eval (.Call (.Name x p) args [] pos) env) Q E s:=PyProof.Rows.Call_ h
end
section
variable {X:Cx} {A:Around} {K:Kx} {n:Nat} {env:Env} {n₀:Bs} {vars:Vars} {ow:Option (Str × Ow)} {m cm:Str->Option Value}
theorem c0q{iter:Expr}{v:Value}(h:notSet iter=true):foldedSetIterable iter env v=pure v:=by
 cases iter<;>first|rfl|cases h
theorem y0z{f:FH}{σ σ₁ σ₂:Gs}{s:Shared}{scope:Scope}{x:Str}{elt iter:Expr}{px:Pos}{pos:Pos}(hh:A.handled=none)(C:Cz X env n₀)(R:Rel X env n₀ f s.heap vars ow m cm)(S:St X f σ s.heap)(F:CompFacts scope env.scope x)
  {r:V->Gs->Option (V × Gs)}(HE:SndC X A env {n₀ with me:=none} scope (λy=>(x,y)::keepF (freesL scope.names) vars) elt r){it:V}(HI:Tr X A (eval iter env) f σ s it σ₁){xs ys:List V}(hx:seqV it=some xs)(he:evItems r xs σ₁=some (ys,σ₂))
  (hlen:∀v g,VR X g v it->ys.length≤4000)(hset:notSet iter=true){y:V}(hy:∀v f,(∃v g,VR X g v it)->VR X f v (.lst ys ys.length)->VR X f v y):Tr X A (eval (.ListComp elt [⟨.Name x px,iter,[],0⟩] scope pos) env) f σ s y σ₂:=by
 intro Q E hQ
 rw[eval_ListComp]
 refine p0u (use:=none) hh C R F HE HI hx he hlen (λv=>c0q hset) λD L f' h' t' m' ex K' S' hv dL gL fL hn=> ?_
 refine⟨m',hn,λh'' hs=> ?_⟩
 have hst:∃o,s.heap.get? cStatics=some o:=by obtain⟨mc,⟨o,es,ep,e,r⟩,hm⟩:=S.nolim;exact⟨o,e⟩
 obtain⟨S2,K2⟩:=S'.but K' hst dL gL fL hs.extBut
 exact hQ _ _ _ _ K2 S2 (hy _ _ ex hv)
theorem e0q:∀(l:List Nd)(σ:Gs),evItems (λy σ=>match idxV y 0 with|some z=>some (z,σ)|none=>none) (l.map λnd=>V.abs (.part nd)) σ=some (l.map λnd=>V.abs (.node nd),σ)
 |[],σ=>rfl
 |nd::r,σ=>by
  show(match evItems _ (r.map λnd=>V.abs (.part nd)) σ with|some (ys,σ₂)=>some (V.abs (.node nd)::ys,σ₂)|none=>none)=_
  rw[e0q r σ];rfl
set_option tactic.hygienic true in
theorem q0v{scope:Scope}{x:Str}{py p2 p3:Pos}{k2:Nat}(hy:okName x=true):SndC X A env n₀ scope (λy=>(x,y)::keepF (freesL scope.names) vars) (.Subscript (.Name x py) (.Constant (.int 0) k2 p2) p3) (λy σ=>match idxV y 0 with|some z=>some (z,σ)|none=>none):=by
 intro L m cm y σ z σ' f s h C R S
 dsimp only at h
 split at h
 ·rename_i w hw
  cases h
  intro Q E hQ
  obtain⟨h1,h2⟩:=a0v hy
  obtain⟨v,a,b⟩:=R.vars x y (by rw[b0g,if_pos rfl])
  refine Subscript_ (wpAny_Name (b0o C R.fm a h2 ?_) h1)
  refine wpAny_Constant_int ?_
  obtain⟨⟨T,id,g1,g2⟩,g3⟩:=o0o (A:=A) (t:=s.toks) (s:={s with toks:=s.toks+1}) S b hw
  exact PyProof.Rows.tail_any g1 g2 (g3 _ _ λvd f3 hp3 t3 K3 S3 r3=>hQ vd f3 hp3 t3 K3 S3 r3) (f0d rfl)
 ·cases h
theorem f0p{args:List Expr}{env:Env}:∀x∈treesOf args env,x.1=false:=λz hz=>by
 obtain⟨e,_,rfl⟩:=List.mem_map.mp hz;rfl
end
noncomputable def MethOK(K:Ec)(x:V)(a:Str)(σ:Gs)(g:Value):Prop:=∀(X:Cx)(A:Around)(f:FH)(s:Shared)(v:Value)(pl:Sem Bool)(Q:Value × List Value->Shared->Prop)(E:Value->Shared->Prop),EcOK X K->St X f σ s.heap->VR X f v x->Q (g,[v]) s->wpAny X.M A (getMethod v a pl) Q E s
noncomputable def methP(K:Ec)(x:V)(a:Str)(σ:Gs):Option {g:Value // MethOK K x a σ g}:=onE (methV K x a) (λg hg=>some ⟨.ref g,λX A f s v pl Q E EK S hv h=>u0t EK S hv hg h⟩) λx0=>match x with
 | .str _=>onT (seq a "join") λhq=>some ⟨.builtin "str.join",λX A f s v pl Q E EK S hv h=>by
  cases(a0h _ _).mp hq
  cases hv using VR.eStr with
  |str t hw=>exact @GM.join _ _ _ _ _ _ _ _ h⟩
 | .dct _=>onT (seq a "get") λhq=>some ⟨.builtin "dict.get",λX A f s v pl Q E EK S hv h=>by
  cases(a0h _ _).mp hq
  cases hv using VR.eDct with
  | @dct a o kvs fa hd hs hi=>
   have ho:=S.isIn _ _ fa
   obtain⟨es,ep,hX,-⟩:=hd
   exact @getMethod_builtin _ _ _ _ _ "dict" _ _ _ _ ⟨o,ho,hX.1⟩ PySem.F.plainAttrs_dict PySem.F.slot_dict_get PySem.F.type_dict_get (λb e=>by cases e;exact⟨o,ho,hX.2.1⟩) h⟩
 | .gl 1=>onT (seq a "get") λhq=>onS (namesOf σ.md σ.nb) λDT hn=>some ⟨.builtin "dict.get",λX A f s v pl Q E EK S hv h=>by
  cases(a0h _ _).mp hq
  cases hv using VR.eGl with
  |gl _=>
  obtain⟨ap,⟨kvs,⟨o,es,ep,ho,hX,_⟩,_⟩,_⟩:=S.inv.names _ _ hn
  exact @getMethod_builtin _ _ _ _ _ "dict" _ _ _ _ ⟨o,ho,hX.1⟩ PySem.F.plainAttrs_dict PySem.F.slot_dict_get PySem.F.type_dict_get (λb e=>by cases e;exact⟨o,ho,hX.2.1⟩) h⟩
 | .gl 2=>onT (seq a "append") λhq=>onS (namesOf σ.md σ.nb) λDT hn=>some ⟨.builtin "list.append",λX A f s v pl Q E EK S hv h=>by
  cases(a0h _ _).mp hq
  cases hv using VR.eGl with
  |gl _=>
  obtain⟨ap,_,vs,m,ho,_⟩:=S.inv.names _ _ hn
  exact @getMethod_list_append _ _ _ _ _ _ _ _ ho rfl rfl h⟩
 |_=>none
section
variable {X:Cx} {A:Around} {K:Kx} {n:Nat} {env:Env} {n₀:Bs} {vars:Vars} {ow:Option (Str × Ow)} {m cm:Str->Option Value}
theorem StrVals.get{vs:List Value}{T:List Str}(h:StrVals vs T):∀{i:Nat}{t:Str},T[i]? =some t->∃u,vs[i]? =some (.str t u):=by
 induction h with
 |nil=>intro i t e;simp at e
 |cons x u r ih=>
  intro i t e
  cases i with
  |zero=>simp at e;subst e;exact⟨u,rfl⟩
  |succ i=>simpa using ih (by simpa using e)
end
noncomputable def IdxGOK(σ:Gs)(x:V)(i:Int)(z:V):Prop:=∀(X:Cx)(A:Around)(f:FH)(s:Shared)(v:Value)(t:Tok),St X f σ s.heap->VR X f v x->(∃T id,s.TypeIs v T∧typeLookup (.type T) "__getitem__"=pure (some (.builtin id)))∧Tr X A (getItem v (.int i t)) f σ s z σ
noncomputable def idxGP(σ:Gs)(x:V)(i:Int):Option {z:V // IdxGOK σ x i z}:=match idxP x i with
 |some z=>some ⟨z.1,λX A f s v t S hv=>z.2 X A f σ s v t S hv⟩
 |none=>match x with
  | .gl 2=>onS (namesOf σ.md σ.nb) λDT hn=>onT (decide (0≤i)) λh0=>onT (decide (i<1000)) λh1=>onS DT.2[i.toNat]? λw hw=>some ⟨.str (wS w),λX A f s v t S hv=>by
   cases hv using VR.eGl with
   |gl _=>
   have h0:=of_decide_eq_true h0
   have h1:=of_decide_eq_true h1
   obtain⟨ap,_,vs,m,ho,hs⟩:=S.inv.names _ _ hn
   obtain⟨u,hu⟩:=hs.get hw
   have hl:s.heap.IsList (X.g 2) vs.toArray:=⟨_,ho,rfl,m,rfl⟩
   refine⟨⟨_,_,hl.typeIs,slot_list_getitem.lookup⟩,λQ E hQ=>wpAny_getItem_list hl h0 (by lia) (by simpa using hu) (here' S hQ ?_)⟩
   have:=VR.str (X:=X) (f:=f) u (w:=wS w) (f0g w)
   rwa [k0d] at this⟩
  |_=>none
section
variable {X:Cx} {A:Around} {K:Kx} {n:Nat} {env:Env} {n₀:Bs} {vars:Vars} {ow:Option (Str × Ow)} {m cm:Str->Option Value}
theorem c0v{o:Expr}{a:Str}{apos pos:Pos}{args:List Expr}{s:Shared}{Q:Value->Shared->Prop}{E:Value->Shared->Prop}(hc:notCall o=true)(hp:allPlain args=true)(hl:Nat.beq apos.endLine pos.line=true)(hn:Nat.ble args.length 20=true)
  (h:wpAny X.M A (eval o env) (λov s₁=>wpAny X.M A (getMethod ov a (do return(←importBound o env).getD true)) (λp s₂=>wpAny X.M A (callWith pos p.1 p.2 (treesOf args env) []) Q E s₂) E s₁) E s):
  wpAny X.M A (eval (.Call (.Attribute o a apos) args [] pos) env) Q E s:=by
 have hbase:attributeBase o a env (eval o env)=eval o env:=by cases o<;>first|rfl|cases hc
 have hline:(apos.endLine==pos.line)=true:=by rw[Nat.eq_of_beq_eq_true hl];simp
 rw[arm_eval_Call,hbase,a0k hp]
 refine wpAny_bind (wpAny_mono h (λov s₁ h₁=> ?_) λx0 x0 e=>e)
 refine wpAny_bind (wpAny_standAt ?_)
 have hform:methodCallForm (args.length+([]:List Keyword).length) (treesOf args env) (backToKw pos (keywordEach [] env))=true:=by
  unfold methodCallForm
  have h1:(treesOf args env).all (λx=> !x.1)=true:=List.all_eq_true.mpr λz hz=>by
   obtain⟨e,_,rfl⟩:=List.mem_map.mp hz;rfl
  rw[h1]
  have:=Nat.le_of_ble_eq_true hn
  have:args.length+([]:List Keyword).length+0<30:=by simp;lia
  show(true&&true&&decide (_<30))=true
  simp only [Bool.true_and,decide_eq_true_eq]
  exact this
 have hpos:methodCallPos true o env apos pos=pure pos:=by unfold methodCallPos;simp[hline]
 unfold methodCall
 rw[hform]
 exact wpAny_bind (wpAny_holding (wpAny_mono h₁ (λp s₂ h₂=>wpAny_bind (wpAny_of_eq hpos h₂)) λx0 x0 e=>e))
theorem r0z{o:Expr}{w:Wd}{l:List Nat}{kk:Int}{k1:Nat}{p1 p2 pos:Pos}{s:Shared}{f:FH}{σ σ₁:Gs}(HO:Tr X A (eval o env) f σ s (.str w) σ₁)(hl:wlit w=some l)(hb:Nat.ble l.length 16777216=true):
  Tr X A (eval (.Subscript o (.Slice (some (.Constant (.int kk) k1 p1)) none none p2) pos) env) f σ s (.str (lits (Txt.slice ⟨l.toArray⟩ (some kk) none).cps.toList)) σ₁:=by
 intro Q E hQ
 refine Subscript_ (HO _ _ λv f1 h1 t1 K1 S1 r1=> ?_)
 refine wpAny_Slice (evalPart_some_step (wpAny_Constant_int (evalPart_none_step (evalPart_none_step ?_))))
 cases r1 with
 | @str t _ hw=>
 have hx:wden w=⟨l.toArray⟩:=b0k (by rw[a0i,a0x hl])
 refine PyProof.Rows.tail_any (typeIs_str _ _ _) F.slot_str_getitem.lookup (wpAny_getItem_str_slice (l:=some (kk,t1)) (u:=none) (st:=none) ⟨_,Heap.get?_push_size _ rfl,rfl,rfl⟩ rfl (post_val_or_str ⟨?_,λt' k'=> ?_⟩)) (ops:=_) rfl
 ·show(Txt.slice (wden w) (some kk) none).length≤sizeLine
  exact Nat.le_trans (Txt.slice_le _ _ _) (by rw[hx];show l.toArray.size≤_;rw[List.size_toArray,line24];exact Nat.le_of_ble_eq_true hb)
 ·show Q (.str (Txt.slice (wden w) (some kk) none) t') _
  rw[hx]
  have z:=S1.push (o:={cls:=.type "slice",data:=.fields #[.int kk t1,.none,.none]})
  refine hQ _ _ _ _ (K1.trans (Kp.push _)) z ?_
  have:=VR.str (X:=X) (f:=f1) t' (w:=lits (Txt.slice ⟨l.toArray⟩ (some kk) none).cps.toList) (e0e _)
  rwa [show wden (lits (Txt.slice ⟨l.toArray⟩ (some kk) none).cps.toList)=Txt.slice ⟨l.toArray⟩ (some kk) none from k0d _] at this
end
noncomputable def DictOK(keys:List (Option Expr))(vals:List Expr)(σ:Gs)(z:V):Prop:=∀(X:Cx)(A:Around)(env:Env)(pos:Pos)(f:FH)(s:Shared),St X f σ s.heap->Tr X A (eval (.Dict keys vals pos) env) f σ s z σ
theorem o0q{X:Cx}{σ:Gs}{g:FH}{h:Heap}(S:St X g σ h):(h.objs.size==sysModules)=false:=by
 obtain⟨mc,⟨o,es,ep,e,r⟩,hm⟩:=S.nolim
 have h2:(2:Nat)<h.objs.size:=Heap.lt_size e
 exact beq_eq_false_iff_ne.mpr (show h.objs.size≠1 by lia)
theorem p0o{σ:Gs}:DictOK [] [] σ (.dct []):=λX A env pos f s S=>by
 intro Q E hQ
 refine wpAny_Dict_empty ?_
 have z:=S.alloc (o:={cls:=.type "dict",data:=.dict #[]}) rfl
 exact hQ _ _ _ _ z.2 z.1 (.dct (kvs:=[]) (FH.put_self ..) ⟨#[],0,⟨rfl,rfl,rfl⟩,rfl,(by intro e he;simp at he),.nil,.nil⟩ (o0q S) .nil)
theorem v0i{σ:Gs}{k:Int}{k1:Nat}{p1:Pos}{w:Str}{k2:Nat}{p2:Pos}:DictOK [some (.Constant (.int k) k1 p1)] [.Constant (.str w) k2 p2] σ (.dct [(k,.str (wS w))]):=λX A env pos f s S=>by
 intro Q E hQ
 have hst:∃o,s.heap.get? cStatics=some o:=by obtain⟨mc,⟨o,es,ep,e,r⟩,hm⟩:=S.nolim;exact⟨o,e⟩
 have gD:¬X.G s.heap.objs.size:=λhg=>Nat.lt_irrefl _ (S.inv.lt _ hg)
 have dD:s.heap.get? s.heap.objs.size=none:=dead _
 have fD:f s.heap.objs.size=none:=by
  exact b0i (λo q=>S.isIn _ _ q) (dD)
 have S1:St X f σ (s.heap.push {cls:=.type "dict",data:=.dict #[]}):=S.push
 have l1:(s.heap.push {cls:=.type "dict",data:=.dict #[]}).get? s.heap.objs.size=some {cls:=.type "dict",data:=.dict #[]}:=Heap.get?_push_size _ rfl
 refine @wpAny_Dict_walk _ _ _ _ (intKind X.P X.w) _ _ _ _ _ _ _ _ rfl rfl (by simp) (by show 1≤15;decide) (pairTrees_cons_walk ?_)
 refine b0t (s:={s with heap:=s.heap.push {cls:=.type "dict",data:=.dict #[]}}) S1 (show litV (.int k)=some (.int k) from rfl) _ _ λva f1 h1 t1 K1 S2 r1=> ?_
 refine b0t (s:={s with heap:=h1,toks:=t1}) S2 (show litV (.str w)=some (.str (wS w)) from rfl) _ _ λvb f2 h2 t2 K2 S3 r2=>pairTrees_nil_walk ?_
 have KK:Kp X f s.heap f2 h2:=(Kp.push _).trans (K1.trans K2)
 have l3:h2.get? s.heap.objs.size=some {cls:=.type "dict",data:=.dict #[]}:=(K1.trans K2).keep _ _ l1 gD
 have f3:f2 s.heap.objs.size=none:=(K1.trans K2).off l1 fD
 cases r1 with
 |int _ tk=>
 refine⟨[(k,vb)],⟨by show(k==k)=true;simp,rfl,trivial⟩,⟨_,#[],0,l3,⟨rfl,rfl,rfl⟩,rfl,(by intro e he;simp at he),.nil,.nil⟩,λh' hd hs=> ?_⟩
 obtain⟨S4,K4⟩:=S3.but KK hst dD gD f3 hs.extBut
 obtain⟨o,es,ep,lo,e1,e2,e3,e4,e5⟩:=hd
 have le:=FH.put_le'' (o:=o) f3
 refine hQ _ (f2.put s.heap.objs.size o) h' _ ⟨K4.keep,K4.le.trans le,λb o' e=> ?_⟩ ⟨λb o e=>le _ _ (S4.base b o e),λb o' e=> ?_,S4.inv,λb hb=> ?_,S4.nolim⟩ (.dct (FH.put_self ..) ⟨es,ep,e1,e2,e3,e4,e5⟩ (o0q S) (.cons (r2.mono le) .nil))
 ·unfold FH.put at e
  split at e
  ·rename_i q;subst q;exact .inr ⟨dD,gD⟩
  ·exact K4.new b o' e
 ·unfold FH.put at e
  split at e
  ·rename_i q;subst q;cases e;exact lo
  ·exact S4.isIn _ _ e
 ·unfold FH.put
  rw[if_neg (show b≠_ from λq=>gD (by rw[←q];exact hb))];exact S4.off b hb
noncomputable def dictP(keys:List (Option Expr))(vals:List Expr)(σ:Gs):Option {z:V // DictOK keys vals σ z}:=match keys,vals with
 |[],[]=>some ⟨.dct [],p0o⟩
 |[some (.Constant (.int k) k1 p1)],[.Constant (.str w) k2 p2]=>some ⟨.dct [(k,.str (wS w))],@v0i σ k k1 p1 w k2 p2⟩
 |_,_=>none
structure EvC(K:Kx)(r:Rcr)(sc:Scope)(X:Cx)(A:Around)(n:Nat)(env:Env)(n₀:Bs):Prop where
 EK:KxOK X n K
 hA:Room X A n
 C:Cz X env n₀
 hs:sc=env.scope
 IH:∀(env:Env)(n₀:Bs)(vars:Vars)(ow:Option (Str × Ow))(m cm:Str->Option Value),Cz X env n₀->SndE X A env n₀ vars ow m cm (r env.scope vars false)∧SndT X A env n₀ vars ow m cm (r env.scope vars true)
theorem EvC.E{K:Kx}{r:Rcr}{sc:Scope}{X:Cx}{A:Around}{n:Nat}{env:Env}{n₀:Bs}(H:EvC K r sc X A n env n₀){vars:Vars}{ow:Option (Str × Ow)}{m cm:Str->Option Value}:SndE X A env n₀ vars ow m cm (r sc vars false):=by rw[H.hs];exact(H.IH _ _ _ _ _ _ H.C).1
theorem EvC.T{K:Kx}{r:Rcr}{sc:Scope}{X:Cx}{A:Around}{n:Nat}{env:Env}{n₀:Bs}(H:EvC K r sc X A n env n₀){vars:Vars}{ow:Option (Str × Ow)}{m cm:Str->Option Value}:SndT X A env n₀ vars ow m cm (r sc vars true):=by rw[H.hs];exact(H.IH _ _ _ _ _ _ H.C).2
noncomputable def TrM(md:Bool)(X:Cx)(A:Around)(e:Expr)(env:Env)(f:FH)(σ:Gs)(s:Shared)(p:V × Gs):Prop:=match md with
 |false=>Tr X A (eval e env) f σ s p.1 p.2
 |true=>TrG X A (isTrue e env (eval e env)) f σ s (λx0 c=>p.1= .bool c) p.2
noncomputable def EvOK(md:Bool)(K:Kx)(r:Rcr)(sc:Scope)(vars:Vars)(e:Expr)(σ:Gs)(p:V × Gs):Prop:=∀(X:Cx)(A:Around)(n:Nat)(env:Env)(n₀:Bs)(ow:Option (Str × Ow))(m cm:Str->Option Value)(f:FH)(s:Shared),
 EvC K r sc X A n env n₀->Rel X env n₀ f s.heap vars ow m cm->St X f σ s.heap->TrM md X A e env f σ s p
noncomputable abbrev EvR(md:Bool)(K:Kx)(r:Rcr)(sc:Scope)(vars:Vars)(e:Expr)(σ:Gs):=Option {p:V × Gs // EvOK md K r sc vars e σ p}
section
variable {K:Kx} {r:Rcr} {sc:Scope} {vars:Vars} {σ σ₁:Gs}
theorem x0g{x:Expr}{pos:Pos}{b:Bool}:∀{md:Bool},r sc vars md x σ=some (.bool b,σ₁)->EvOK md K r sc vars (.UnaryOp .Not x pos) σ (.bool (!b),σ₁)
 |false,h1=>λX A n env n₀ ow m cm f s H R S Q E hQ=>UnaryOp_ (H.E x σ _ _ f s h1 R S _ _ λva f1 hp1 t1 K1 S1 r1=>by rw[c0b r1];exact not_of (wpAny_truthy_bool (hQ _ f1 hp1 t1 K1 S1 (.bool _))))
 |true,h1=>λX A n env n₀ ow m cm f s H R S Q E hQ=>isTrue_not (H.T x σ _ _ f s h1 R S _ _ λva f1 hp1 t1 K1 S1 r1=>hQ _ f1 hp1 t1 K1 S1 (by cases r1;rfl))
noncomputable def notP(md:Bool)(x:Expr)(pos:Pos):EvR md K r sc vars (.UnaryOp .Not x pos) σ:=onB (r sc vars md x σ) λb σ₁ h1=>some ⟨(.bool (!b),σ₁),x0g h1⟩
noncomputable def pickE:Bool->Expr->Expr->Expr
 |true,a,_=>a
 |false,_,b=>b
theorem b1w{t a b:Expr}{pos:Pos}{c:Bool}{p:V × Gs}:∀{md:Bool},r sc vars true t σ=some (.bool c,σ₁)->r sc vars md (pickE c a b) σ₁=some (p.1,p.2)->EvOK md K r sc vars (.IfExp t a b pos) σ p
 |false,h1,h=>λX A n env n₀ ow m cm f s H R S Q E hQ=>IfExp_ (H.T t σ _ _ f s h1 R S _ _ λva f1 hp1 t1 K1 S1 r1=>by
  cases r1
  cases c<;>exact H.E _ σ₁ _ _ f1 _ h (R.kp' K1) S1 _ _ λvd f3 hp3 t3 K3 S3 r3=>hQ vd f3 hp3 t3 (K1.trans K3) S3 r3)
 |true,h1,h=>λX A n env n₀ ow m cm f s H R S Q E hQ=>isTrue_IfExp (H.T t σ _ _ f s h1 R S _ _ λva f1 hp1 t1 K1 S1 r1=>by
  cases r1
  cases c<;>exact H.T _ σ₁ _ _ f1 _ h (R.kp' K1) S1 _ _ λvd f3 hp3 t3 K3 S3 r3=>hQ vd f3 hp3 t3 (K1.trans K3) S3 r3)
noncomputable def ifP(md:Bool)(t a b:Expr)(pos:Pos):EvR md K r sc vars (.IfExp t a b pos) σ:=onB (r sc vars true t σ) λc σ₁ h1=>onR (r sc vars md (pickE c a b) σ₁) λx σ₂ h2=>some ⟨(x,σ₂),b1w h1 h2⟩
theorem u0l{op:BoolOp}{xs:List Expr}{pos:Pos}{p:Bool × Gs}:∀{md:Bool},BoOK (r sc vars md) op xs σ p->EvOK md K r sc vars (.BoolOp op xs pos) σ (.bool p.1,p.2)
 |false,h=>λX A n env n₀ ow m cm f s H R S=>(h _ _ _ _ _ _ _ _ f s R S).1 H.E pos
 |true,h=>λX A n env n₀ ow m cm f s H R S=>((h _ _ _ _ _ _ _ _ f s R S).2 H.T).mono λx0 x0 q=>by rw[q]
noncomputable def boolP(md:Bool)(op:BoolOp)(xs:List Expr)(pos:Pos):EvR md K r sc vars (.BoolOp op xs pos) σ:=onP (boP (r sc vars md) op xs σ) λp h=>some ⟨(.bool p.1,p.2),u0l h⟩
theorem y0n{l:Expr}{ops:List CmpOp}{rs:List Expr}{pos:Pos}{a:V}{p:Bool × Gs}(hm:lastMarks ops rs=false)(h1:r sc vars false l σ=some (a,σ₁))(h:ChOK (r sc vars false) a ops rs σ₁ p):∀{md:Bool},EvOK md K r sc vars (.Compare l ops rs pos) σ (.bool p.1,p.2)
 |false=>λX A n env n₀ ow m cm f s H R S Q E hQ=>by
  show wpAny X.M A (do compareChain pos (←eval l env) ops (markedEach ops rs (evalEach rs env))) Q E s
  rw[markedEach_of_false _ _ _ hm]
  exact wpAny_bind (H.E l σ _ _ f s h1 R S _ _ λva f1 hp1 t1 K1 S1 r1=>(h _ _ _ _ _ _ _ _ _ H.hA H.E pos va f1 _ r1 (R.kp' K1) S1).1 _ _ λvd f3 hp3 t3 K3 S3 r3=>hQ vd f3 hp3 t3 (K1.trans K3) S3 r3)
 |true=>λX A n env n₀ ow m cm f s H R S Q E hQ=>by
  show wpAny X.M A (do testChain pos (←eval l env) ops (markedEach ops rs (evalEach rs env))) Q E s
  rw[markedEach_of_false _ _ _ hm]
  exact wpAny_bind (H.E l σ _ _ f s h1 R S _ _ λva f1 hp1 t1 K1 S1 r1=>(h _ _ _ _ _ _ _ _ _ H.hA H.E pos va f1 _ r1 (R.kp' K1) S1).2 _ _ λvd f3 hp3 t3 K3 S3 r3=>hQ vd f3 hp3 t3 (K1.trans K3) S3 (by rw[r3]))
noncomputable def cmpEP(md:Bool)(l:Expr)(ops:List CmpOp)(rs:List Expr)(pos:Pos):EvR md K r sc vars (.Compare l ops rs pos) σ:=onF (lastMarks ops rs) (λx0=>none) λhm=>onR (r sc vars false l σ) λa σ₁ h1=>onP (chP (r sc vars false) a ops rs σ₁) λp h=>some ⟨(.bool p.1,p.2),y0n hm h1 h⟩
noncomputable def isPl(e:Expr):Bool:=@EK.rec (λ_ _=>Bool) (λ_ _ _=>true) (λ_ _=>true) (λ_ _ _ _=>true) (λop _ _=>match op with| .Not=>false|_=>true) (λ_ _ _=>false) (λ_ _ _ _=>false) (λ_ _ _ _=>false) (λ_ _ _=>true) (λ_ _ _=>true) (λ_ _ _=>true) (λ_ _=>true) (λ_ _ _ _=>true) (λ_ _ _ _=>true) (λ_ _ _=>true) (λ_=>true) _ (vw e)
theorem pl_of{e:Expr}(h:isPl e=true)(env:Env)(whole:Sem Value):isTrue e env whole=(do let v ←whole;standAt e.pos;holding [v] (truthy v)):=by
 cases e with
 |UnaryOp op=>cases op<;>first|rfl|cases h
 |_=>first|rfl|cases h
noncomputable def truP(e:Expr):EvR true K r sc vars e σ:=onT (isPl e) λhp=>onB (r sc vars false e σ) λb σ₁ h1=>some ⟨(.bool b,σ₁),λX A n env n₀ ow m cm f s H R S Q E hQ=>isTrue_plain (H.E e σ _ _ f s h1 R S _ _ λva f1 hp1 t1 K1 S1 r1=>by
 rw[c0b r1];exact wpAny_truthy_bool (hQ _ f1 hp1 t1 K1 S1 rfl)) (pl_of hp env _)⟩
noncomputable abbrev EvF(md:Bool)(e:Expr)(_:EK e):=∀(K:Kx)(r:Rcr)(sc:Scope)(vars:Vars)(σ:Gs),EvR md K r sc vars e σ
noncomputable def evTP(K:Kx)(r:Rcr)(sc:Scope)(vars:Vars)(e:Expr)(σ:Gs):EvR true K r sc vars e σ:=@EK.rec (EvF true) (λ_ _ _ K r sc vars σ=>truP _) (λ_ _ K r sc vars σ=>truP _) (λ_ _ _ _ K r sc vars σ=>truP _)
 (λop x p=>match op with| .Not=>λK r sc vars σ=>notP true x p| .USub=>λK r sc vars σ=>truP _| .UAdd=>λK r sc vars σ=>truP _| .Invert=>λK r sc vars σ=>truP _)
 (λop xs p K r sc vars σ=>boolP true op xs p) (λt a b p K r sc vars σ=>ifP true t a b p) (λl ops rs p K r sc vars σ=>cmpEP true l ops rs p) (λ_ _ _ K r sc vars σ=>truP _) (λ_ _ _ K r sc vars σ=>truP _) (λ_ _ _ K r sc vars σ=>truP _) (λ_ _ K r sc vars σ=>truP _)
 (λ_ _ _ _ K r sc vars σ=>truP _) (λ_ _ _ _ K r sc vars σ=>truP _) (λ_ _ _ K r sc vars σ=>truP _) (λ_ K r sc vars σ=>truP _) e (vw e) K r sc vars σ
noncomputable def nameP(x:Str)(p:Pos):EvR false K r sc vars (.Name x p) σ:=onT (okName x) λhx=>onE (look x vars) (λv hv=>some ⟨(v,σ),λX A n env n₀ ow m cm f s H R S Q E hQ=>by
  obtain⟨w,a,b⟩:=R.vars _ _ hv
  exact wpAny_Name (b0o H.C R.fm a (a0v hx).2 (here' S hQ b)) (a0v hx).1⟩)
 λx0=>onT (kindG sc x) λhk=>onS (look x K.GT) λv hl=>some ⟨(v,σ),λX A n env n₀ ow m cm f s H R S Q E hQ=>wpAny_Name (d0a H.EK.toEcOK H.C S (by rw[←H.hs];exact hk) hl hx Q E hQ) (a0v hx).1⟩
noncomputable def binP(l:Expr)(op:Operator)(e:Expr)(pos:Pos):EvR false K r sc vars (.BinOp l op e pos) σ:=onR (r sc vars false l σ) λa σ₁ h1=>onR (r sc vars false e σ₁) λb σ₂ h2=>onP (opP op a b) λc h3=>some ⟨(c,σ₂),λX A n env n₀ ow m cm f s H R S Q E hQ=>
 wpAny_BinOp (H.E l σ _ _ f s h1 R S _ _ λva f1 hp1 t1 K1 S1 r1=>H.E e σ₁ _ _ f1 _ h2 (R.kp' K1) S1 _ _ λvb f2 hp2 t2 K2 S2 r2=>h3 _ _ _ _ _ _ _ S2 (r1.mono K2.le) r2 _ _ λvd f3 hp3 t3 K3 S3 r3=>hQ vd f3 hp3 t3 ((K1.trans K2).trans K3) S3 r3)⟩
noncomputable def negP(x:Expr)(pos:Pos):EvR false K r sc vars (.UnaryOp .USub x pos) σ:=onR (r sc vars false x σ) λa σ₁ h1=>onS a.toInt? λi hi=>some ⟨(.int (-i),σ₁),λX A n env n₀ ow m cm f s H R S Q E hQ=>
 UnaryOp_ (H.E x σ _ _ f s h1 R S _ _ λva f1 hp1 t1 K1 S1 r1=>by
  obtain⟨t,rfl⟩:=r1.toInt hi
  exact PyProof.Rows.neg_int (hQ _ f1 hp1 _ K1 S1 (.int _ _)))⟩
noncomputable def attrP(o:Expr)(a:Str)(pos:Pos):EvR false K r sc vars (.Attribute o a pos) σ:=onT (notCall o) λhnc=>onR (r sc vars false o σ) λy σ₁ h1=>onS (attrV K.toEc y a) λz h2=>some ⟨(z,σ₁),λX A n env n₀ ow m cm f s H R S Q E hQ=>
 Attribute_any_ (he:=by cases o<;>first|rfl|(cases hnc;done)) (H.E o σ _ _ f s h1 R S _ _ λva f1 hp1 t1 K1 S1 r1=>v0m H.EK.toEcOK S1 r1 h2 _ _ λvd f3 hp3 t3 K3 S3 r3=>hQ vd f3 hp3 t3 (K1.trans K3) S3 r3)⟩
noncomputable def subP(o i:Expr)(pos:Pos):EvR false K r sc vars (.Subscript o i pos) σ:=onR (r sc vars false o σ) λy σ₁ h1=>onF (notSlice i) (λhns=>onR (r sc vars false i σ₁) λz σ₂ h2=>onS z.toInt? λj hj=>onP (idxGP σ₂ y j) λq hq=>some ⟨(q,σ₂),λX A n env n₀ ow m cm f s H R S Q E hQ=>
  Subscript_ (H.E o σ _ _ f s h1 R S _ _ λva f1 hp1 t1 K1 S1 r1=>H.E i σ₁ _ _ f1 _ h2 (R.kp' K1) S1 _ _ λvb f2 hp2 t2 K2 S2 r2=>by
   obtain⟨t,rfl⟩:=r2.toInt hj
   obtain⟨⟨T,id,g1,g2⟩,g3⟩:=hq X A f2 {s with heap:=hp2,toks:=t2} _ t S2 (r1.mono K2.le)
   exact PyProof.Rows.tail_any g1 g2 (g3 _ _ λvd f3 hp3 t3 K3 S3 r3=>hQ vd f3 hp3 t3 ((K1.trans K2).trans K3) S3 r3) (f0d hns))⟩)
 λx0=>onP (sliceP i) λkk hk=>match y,h1 with
  | .str w,h1=>onS (wlit w) λl hl=>onT (Nat.ble l.length 16777216) λhb=>some ⟨(.str (lits (Txt.slice ⟨l.toArray⟩ (some kk) none).cps.toList),σ₁),λX A n env n₀ ow m cm f s H R S=>by
   obtain⟨k1,p1,p2,rfl⟩:=hk
   exact r0z (H.E o σ _ _ f s h1 R S) hl hb⟩
  |_,_=>none
noncomputable def tupP(es:List Expr)(kk:Nat)(pos:Pos):EvR false K r sc vars (.Tuple es kk pos) σ:=onT (allPlain es) λha=>onT (Nat.ble es.length 1000) λhb=>onP (evsP (r sc vars false) es σ) λp h=>some ⟨(.tup p.1,p.2),λX A n env n₀ ow m cm f s H R S Q E hQ=>Tuple_ (by
 rw[a0k ha]
 refine h.2 _ _ _ _ _ _ _ _ H.E f s R S _ _ λvs f1 hp1 t1 K1 S1 r1=>wpAny_newTuple ?_ ?_
 ·have z:=S1.alloc (o:={cls:=.type "tuple",data:=.seq vs.toArray}) rfl
  exact hQ _ _ _ _ (K1.trans z.2) z.1 (.tup (FH.put_self ..) (r1.mono z.2.le))
 ·rw[VRs.length r1,h.1];exact Nat.le_trans (Nat.le_of_ble_eq_true hb) (by decide))⟩
noncomputable def lstP(es:List Expr)(pos:Pos):EvR false K r sc vars (.List es pos) σ:=onT (allPlain es) λha=>onT (Nat.ble es.length 1000) λhb=>onP (evsP (r sc vars false) es σ) λp h=>some ⟨(.lst p.1 p.1.length,p.2),λX A n env n₀ ow m cm f s H R S Q E hQ=>List_ (by
 rw[a0k ha]
 refine h.2 _ _ _ _ _ _ _ _ H.E f s R S _ _ λvs f1 hp1 t1 K1 S1 r1=>wpAny_newList ?_ ?_
 ·have z:=S1.alloc (o:={cls:=.type "list",data:=.seq vs.toArray}) rfl
  exact hQ _ _ _ _ (K1.trans z.2) z.1 (.lst (FH.put_self ..) (r1.mono z.2.le) (Nat.le_refl _))
 ·rw[VRs.length r1,h.1];exact Nat.le_trans (Nat.le_of_ble_eq_true hb) (by decide))⟩
structure LcI(r:Rcr)(vars:Vars)(elt:Expr)(gens:List Comprehension)(scope:Scope)(σ:Gs)(p:V × Gs)(X:Cx)(A:Around)(env:Env)(x:Str)(px:Pos)(iter:Expr)(it:V)(σ₁:Gs)(rr:V->Gs->Option (V × Gs))(xs ys:List V):Prop where
 gens:gens=[⟨.Name x px,iter,[],0⟩]
 F:CompFacts scope env.scope x
 hset:notSet iter=true
 h1:r env.scope vars false iter σ=some (it,σ₁)
 hx:seqV it=some xs
 h2:evItems rr xs σ₁=some (ys,p.2)
 E:∀n₀,SndC X A env n₀ scope (λy=>(x,y)::keepF (freesL scope.names) vars) elt rr
 len:∀v g,VR X g v it->ys.length≤4000
 res:∀v g,(∃v g,VR X g v it)->VR X g v (.lst ys ys.length)->VR X g v p.1
noncomputable def LcOK(r:Rcr)(sc:Scope)(vars:Vars)(elt:Expr)(gens:List Comprehension)(scope:Scope)(σ:Gs)(p:V × Gs):Prop:=∀(X:Cx)(A:Around)(env:Env),sc=env.scope->
 (∀(env:Env)(n₀:Bs)(vars:Vars)(ow:Option (Str × Ow))(m cm:Str->Option Value),Cz X env n₀->SndE X A env n₀ vars ow m cm (r env.scope vars false)∧SndT X A env n₀ vars ow m cm (r env.scope vars true))->
 ∃x px iter it σ₁ rr xs ys,LcI r vars elt gens scope σ p X A env x px iter it σ₁ rr xs ys
noncomputable def firstsP(x:Str)(elt:Expr)(it:V):Option {l:List Nd // it= .abs (.parts l)∧okName x=true∧∃py k2 p2 p3,elt= .Subscript (.Name x py) (.Constant (.int 0) k2 p2) p3}:=match it,elt with
 | .abs (.parts l),.Subscript (.Name y py) (.Constant (.int 0) k2 p2) p3=>onT (seq x y) λq1=>onT (okName x) λq2=>some ⟨l,rfl,q2,py,k2,p2,p3,by rw[(a0h _ _).mp q1]⟩
 |_,_=>none
noncomputable def lcP(r:Rcr)(sc:Scope)(vars:Vars)(elt:Expr)(gens:List Comprehension)(scope:Scope)(σ:Gs):Option {p:V × Gs // LcOK r sc vars elt gens scope σ p}:=onP (oneGenP gens) λg hg=>onT (compOk scope sc g.1) λhc=>onT (notSet g.2) λhset=>onR (r sc vars false g.2 σ) λit σ₁ h1=>
 match firstsP g.1 elt it with
 |some ⟨l,h⟩=>some ⟨(.abs (.items l),σ₁),λX A env hs IH=>by
  subst hs
  obtain⟨px,hg⟩:=hg
  obtain⟨rfl,q2,py,k2,p2,p3,rfl⟩:=h
  refine⟨_,px,_,_,_,_,_,_,hg,d0q hc,hset,h1,rfl,e0q l _,λn₀=>q0v q2,λv g q=> ?_,λv g ex hv=> ?_⟩
  ·rw[List.length_map];exact Nat.le_trans q.inv.1 (by decide)
  ·obtain⟨v',g',q⟩:=ex
   rw[List.length_map] at hv
   exact .abs q.inv.1 hv⟩
 |none=>onS (seqV it) λxs hx=>onS (evItems (λy σ=>r (relabel scope (dum sc)) ((g.1,y)::keepF (freesL scope.names) vars) false elt σ) xs σ₁) λq h2=>onT (Nat.ble q.1.length 4000) λhlen=>some ⟨(.lst q.1 q.1.length,q.2),λX A env hs IH=>by
  subst hs
  obtain⟨px,hg⟩:=hg
  exact⟨_,px,_,it,σ₁,_,xs,q.1,hg,d0q hc,hset,h1,hx,h2,λn₀ L m cm y σ z σ' f s e C' R' S'=>(IH _ n₀ _ none m cm C').1 elt σ z σ' f s e R' S',λx0 x0 x0=>Nat.le_of_ble_eq_true hlen,λv g x0 hv=>hv⟩⟩
theorem c1l{elt:Expr}{gens:List Comprehension}{scope:Scope}{pos:Pos}(hl:K.lp=true)(p:V × Gs)(h:LcOK r sc vars elt gens scope σ p):EvOK false K r sc vars (.ListComp elt gens scope pos) σ p:=λX A n env n₀ ow m cm f s H R S=>by
 obtain⟨y,px,iter,it,σ₁,rr,xs,ys,I⟩:=h X A env H.hs H.IH
 cases I.gens
 exact y0z (H.hA.1 (H.EK.lp hl)) H.C R S I.F (I.E _) ((H.IH _ _ _ _ _ _ H.C).1 iter σ _ _ f s I.h1 R S) I.hx I.h2 I.len I.hset I.res
noncomputable def lcEP(elt:Expr)(gens:List Comprehension)(scope:Scope)(pos:Pos):EvR false K r sc vars (.ListComp elt gens scope pos) σ:=onT K.lp λhl=>mapP (c1l hl) (lcP r sc vars elt gens scope σ)
noncomputable def callA(args:List Expr)(pos:Pos)(hp:allPlain args=true)(o:Expr)(a:Str)(apos:Pos):EvR false K r sc vars (.Call (.Attribute o a apos) args [] pos) σ:=onT (Nat.beq apos.endLine pos.line) λhl=>onT (notCall o) λhc=>onT (Nat.ble args.length 20) λhn=>onR (r sc vars false o σ) λy σ₁ h1=>onP (methP K.toEc y a σ₁) λg hg=>onP (evsP (r sc vars false) args σ₁) λp h2=>onR (K.C g (y::p.1) p.2) λz σ₂ h=>some ⟨(z,σ₂),λX A n env n₀ ow m cm f s H R S Q E hQ=>
   c0v hc hp hl hn (H.E o σ _ _ f s h1 R S _ _ λva f1 hp1 t1 K1 S1 r1=>hg X A f1 {s with heap:=hp1,toks:=t1} _ _ _ _ H.EK.toEcOK S1 r1 (by
    have FV:=H.EK.C _ _ _ _ _ h
    refine FV.1 _ _ _ _ _ _ _ (d0c args env) (a0n f0p ?_)
    exact h2.2 _ _ _ _ _ _ _ _ H.E f1 _ (R.kp' K1) S1 _ _ λvs f2 hp2 t2 K2 S2 r2=>⟨S2.kin,FV.2 A f2 {s with heap:=hp2,toks:=t2} (va::vs) H.hA S2 (.cons (r1.mono K2.le) r2) _ _ λvd f3 hp3 t3 K3 S3 r3=>hQ vd f3 hp3 t3 ((K1.trans K2).trans K3) S3 r3⟩))⟩
noncomputable def callN(args:List Expr)(pos:Pos)(hp:allPlain args=true)(y:Str)(p:Pos):EvR false K r sc vars (.Call (.Name y p) args [] pos) σ:=onC (r sc vars false (.Name y p) σ) λg σ₁ h1=>onP (evsP (r sc vars false) args σ₁) λq h2=>onR (K.C g q.1 q.2) λz σ₂ h=>some ⟨(z,σ₂),λX A n env n₀ ow m cm f s H R S Q E hQ=>
    c0l (H.E (.Name y p) σ _ _ f s h1 R S _ _ λva f1 hp1 t1 K1 S1 r1=>by
     cases r1 using VR.eCon
     rw[a0k hp]
     have FV:=H.EK.C _ _ _ _ _ h
     refine FV.1 _ _ _ _ _ _ _ (d0c args env) (a0n f0p ?_)
     exact h2.2 _ _ _ _ _ _ _ _ H.E f1 _ (R.kp' K1) S1 _ _ λvs f2 hp2 t2 K2 S2 r2=>⟨S2.kin,FV.2 A f2 {s with heap:=hp2,toks:=t2} vs H.hA S2 r2 _ _ λvd f3 hp3 t3 K3 S3 r3=>hQ vd f3 hp3 t3 ((K1.trans K2).trans K3) S3 r3⟩)⟩
noncomputable abbrev CaF(fe:Expr):=∀(args:List Expr)(pos:Pos)(hp:allPlain args=true)(K:Kx)(r:Rcr)(sc:Scope)(vars:Vars)(σ:Gs),EvR false K r sc vars (.Call fe args [] pos) σ
noncomputable def callF(fe:Expr):CaF fe:=@ekD CaF (λ_ _ _ _ _ _ _ _ _=>none) (λy p args pos hp K r sc vars σ=>callN args pos hp y p) (λ_ _ _ _ _ _ _ _ _ _ _=>none) (λo a apos args pos hp K r sc vars σ=>callA args pos hp o a apos) (λ_ _ _ _ _ _ _ _ _ _ _=>none) fe
noncomputable abbrev KwF(fe:Expr)(args:List Expr)(pos:Pos)(kws:List Keyword):=∀(K:Kx)(r:Rcr)(sc:Scope)(vars:Vars)(σ:Gs),EvR false K r sc vars (.Call fe args kws pos) σ
noncomputable def callP(fe:Expr)(args:List Expr)(kws:List Keyword)(pos:Pos):EvR false K r sc vars (.Call fe args kws pos) σ:=@List.rec Keyword (KwF fe args pos) (λK r sc vars σ=>onT (allPlain args) λhp=>callF fe args pos hp K r sc vars σ) (λ_ _ _ _ _ _ _ _=>none) kws K r sc vars σ
end
noncomputable def evVP(K:Kx)(r:Rcr)(sc:Scope)(vars:Vars)(e:Expr)(σ:Gs):EvR false K r sc vars e σ:=@EK.rec (EvF false) (λc k p K r sc vars σ=>onP (constP c) λv h=>some ⟨(v,σ),λX A n env n₀ ow m cm f s H R S=>h _ _ _ _ _ _ _ _ S⟩) (λx p K r sc vars σ=>nameP x p) (λl op e p K r sc vars σ=>binP l op e p)
 (λop x p=>match op with| .Not=>λK r sc vars σ=>notP false x p| .USub=>λK r sc vars σ=>negP x p| .UAdd=>λK r sc vars σ=>none| .Invert=>λK r sc vars σ=>none)
 (λop xs p K r sc vars σ=>boolP false op xs p) (λt a b p K r sc vars σ=>ifP false t a b p) (λl ops rs p K r sc vars σ=>cmpEP false l ops rs p) (λo a p K r sc vars σ=>attrP o a p) (λo i p K r sc vars σ=>subP o i p) (λes k p K r sc vars σ=>tupP es k p) (λes p K r sc vars σ=>lstP es p)
 (λelt gens scope p K r sc vars σ=>lcEP elt gens scope p) (λfe args kws p K r sc vars σ=>callP fe args kws p) (λkeys vals p K r sc vars σ=>onP (dictP keys vals σ) λv h=>some ⟨(v,σ),λX A n env n₀ ow m cm f s H R S=>h _ _ _ _ _ _ S⟩) (λ_ K r sc vars σ=>none) e (vw e) K r sc vars σ
noncomputable def ev(K:Kx)(n:Nat):Rcr:=@Nat.rec (λ_=>Rcr) (λ_ _ _ _ _=>none) (λ_ ih sc vars md e σ=>@Bool.rec (λ_=>Res) (valO (evVP K ih sc vars e σ)) (valO (evTP K ih sc vars e σ)) md) n
section
variable {X:Cx} {A:Around} {K:Kx} {n:Nat} {env:Env} {n₀:Bs} {vars:Vars} {ow:Option (Str × Ow)} {m cm:Str->Option Value}
theorem b0q(EK:KxOK X n K)(hA:Room X A n):∀(k:Nat)(env:Env)(n₀:Bs)(vars:Vars)(ow:Option (Str × Ow))(m cm:Str->Option Value),Cz X env n₀->SndE X A env n₀ vars ow m cm (ev K k env.scope vars false)∧SndT X A env n₀ vars ow m cm (ev K k env.scope vars true):=by
 intro k
 induction k with
 |zero=>exact λx0 x0 x0 x0 x0 x0 x0=>⟨λx0 x0 x0 x0 x0 x0 h=>(nomatch h),λx0 x0 x0 x0 x0 x0 h=>(nomatch h)⟩
 |succ k ih=>exact λenv n₀ vars ow m cm C=>
  ⟨λe σ x σ' f s h R S=>a0t (o:=evVP K (ev K k) env.scope vars e σ) (z:=(x,σ')) h _ _ _ _ _ _ _ _ f s ⟨EK,hA,C,rfl,ih⟩ R S,
   λe σ x σ' f s h R S=>a0t (o:=evTP K (ev K k) env.scope vars e σ) (z:=(x,σ')) h _ _ _ _ _ _ _ _ f s ⟨EK,hA,C,rfl,ih⟩ R S⟩
theorem v0r{K:Kx}{r:Rcr}{sc:Scope}{elt:Expr}{gens:List Comprehension}{scope:Scope}{pos:Pos}{σ:Gs}{p:V × Gs}(h:valO (lcEP (K:=K) (r:=r) (sc:=sc) (vars:=vars) (σ:=σ) elt gens scope pos)=some p):K.lp=true∧LcOK r sc vars elt gens scope σ p:=by
 unfold lcEP at h
 cases hl:K.lp with
 |false=>
  have:∀(b:Bool)(g:b=true->EvR false K r sc vars (.ListComp elt gens scope pos) σ),b=false->valO (onT b g)=none:=λb g q=>by subst q;rfl
  rw[this _ _ hl] at h;cases h
 |true=>
  have:∀(b:Bool)(g:b=true->EvR false K r sc vars (.ListComp elt gens scope pos) σ)(q:b=true),onT b g=g q:=λb g q=>by subst q;rfl
  rw[this _ _ hl] at h
  exact⟨rfl,a0t (v0g h)⟩
theorem t0j{elt:Expr}{gens:List Comprehension}{scope:Scope}{pos:Pos}{k:Nat}{σ σ':Gs}{z:V}
  (IH:∀(env:Env)(n₀:Bs)(vars:Vars)(ow:Option (Str × Ow))(m cm:Str->Option Value),Cz X env n₀->SndE X A env n₀ vars ow m cm (ev K k env.scope vars false)∧SndT X A env n₀ vars ow m cm (ev K k env.scope vars true))
  (h:ev K (k+1) env.scope vars false (.ListComp elt gens scope pos) σ=some (z,σ')):K.lp=true∧∃x px iter it σ₁ rr xs ys,LcI (ev K k) vars elt gens scope σ (z,σ') X A env x px iter it σ₁ rr xs ys:=
 have q:=v0r (pos:=pos) (p:=(z,σ')) h
 ⟨q.1,q.2 X A env rfl IH⟩
theorem p0x{keys:List (Option Expr)}{vals:List Expr}{pos:Pos}{s:Shared}{f:FH}{σ:Gs}{z:V}(S:St X f σ s.heap)(h:valO (dictP keys vals σ)=some z):Tr X A (eval (.Dict keys vals pos) env) f σ s z σ:=a0t h _ _ _ _ _ _ S
end
structure Sx where
 vars:Vars
 ow:Option (Str × Ow)
 σ:Gs
set_option genCtorIdx true in
inductive Fl where
 |next
 |brk
 |ret (y:V)
inductive FlR(X:Cx)(f:FH):Flow->Fl->Prop
 |next:FlR X f .next .next
 |brk:FlR X f .brk .brk
 |ret {v:Value} {y:V}:VR X f v y->FlR X f (.ret v) (.ret y)
noncomputable def TrS(X:Cx)(A:Around)(env:Env)(n₀:Bs)(t:Sem Flow)(f:FH)(st:Sx)(s:Shared)(fl:Fl)(st':Sx):Prop:=
 ∀(Q:Flow->Shared->Prop)(E:Value->Shared->Prop),(∀fl' f' h' t' m' cm',FlR X f' fl' fl->f.le f'->St X f' st'.σ h'->Rel X env n₀ f' h' st'.vars st'.ow m' cm'->Q fl' {s with heap:=h',toks:=t'})->wpAny X.M A t Q E s
noncomputable def SndS(X:Cx)(A:Around)(env:Env)(n₀:Bs)(r:Stmt->Sx->Option (Fl × Sx)):Prop:=
 ∀(e:Stmt)(st:Sx)(fl:Fl)(st':Sx)(f:FH)(s:Shared)(m cm:Str->Option Value),r e st=some (fl,st')->Rel X env n₀ f s.heap st.vars st.ow m cm->St X f st.σ s.heap->TrS X A env n₀ (exec e env) f st s fl st'
noncomputable def thenS(o:Option (Fl × Sx))(k:Sx->Option (Fl × Sx)):Option (Fl × Sx):=@Option.rec (Fl × Sx) (λ_=>Option (Fl × Sx)) none (λp=>@Prod.rec Fl Sx (λ_=>Option (Fl × Sx)) (λfl st=>@Fl.rec (λ_=>Option (Fl × Sx)) (k st) (some (.brk,st)) (λy=>some (.ret y,st)) fl) p) o
noncomputable def evSs(r:Stmt->Sx->Option (Fl × Sx))(es:List Stmt):Sx->Option (Fl × Sx):=@List.rec Stmt (λ_=>Sx->Option (Fl × Sx)) (λst=>some (.next,st)) (λe _ ih st=>thenS (r e st) ih) es
theorem n0c(r:Stmt->Sx->Option (Fl × Sx))(e:Stmt)(es:List Stmt)(st:Sx):evSs r (e::es) st=match r e st with|some (.next,st₁)=>evSs r es st₁|some (fl,st₁)=>some (fl,st₁)|none=>none:=by
 show thenS (r e st) (evSs r es)=_
 cases r e st with
 |none=>rfl
 |some p=>obtain⟨fl,st⟩:=p;cases fl<;>rfl
section
variable {X:Cx} {A:Around} {K:Kx} {n:Nat} {env:Env} {n₀:Bs} {vars:Vars} {ow:Option (Str × Ow)} {m cm:Str->Option Value} {f:FH} {σ:Gs} {s:Shared} {h h':Heap} {r:Stmt->Sx->Option (Fl × Sx)}
set_option tactic.hygienic true in
theorem c0a(C:Cz X env n₀)(HR:SndS X A env n₀ r):∀(es:List Stmt)(st:Sx)(fl:Fl)(st':Sx)(f:FH)(s:Shared)(m cm:Str->Option Value),evSs r es st=some (fl,st')->Rel X env n₀ f s.heap st.vars st.ow m cm->St X f st.σ s.heap->
  TrS X A env n₀ (execs es env) f st s fl st'
 |[],st,fl,st',f,s,m,cm,h,R,S=>by
  cases h
  intro Q E hQ
  exact wpAny_execs_nil (hQ _ f s.heap s.toks m cm .next (FH.le.refl f) S R)
 |e::es,st,fl,st',f,s,m,cm,h,R,S=>by
  rw[n0c] at h
  split at h
  ·rename_i st₁ h1
   intro Q E hQ
   refine wpAny_execs_cons (HR e st _ st₁ f s m cm h1 R S _ _ λfl' f1 hp1 t1 m1 cm1 r1 K1 S1 R1=> ?_)
   cases r1
   exact c0a C HR es st₁ fl st' f1 {s with heap:=hp1,toks:=t1} m1 cm1 h R1 S1 _ _ λfl' f2 hp2 t2 m2 cm2 r2 K2 S2 R2=>hQ fl' f2 hp2 t2 m2 cm2 r2 (K1.trans K2) S2 R2
  ·rename_i fl₁ st₁ hne h1
   cases h
   intro Q E hQ
   refine wpAny_execs_cons (HR e st _ _ f s m cm h1 R S _ _ λfl' f1 hp1 t1 m1 cm1 r1 K1 S1 R1=> ?_)
   have hq:=hQ fl' f1 hp1 t1 m1 cm1 r1 K1 S1 R1
   cases r1 with
   |next=>exact absurd rfl hne
   |brk=>exact hq
   |ret _=>exact hq
  ·cases h
theorem b0l(C:Cz X env n₀){x:Str}{p pos:Pos}{e:Expr}{y:V}{σ':Gs}(R:Rel X env n₀ f s.heap vars ow m cm)(S:St X f σ s.heap)
  (hs:swapsWith e (some (.Name x p)) pos.line env=pure false)(hk:kindOk env.scope x=true)(hself:seq x "self"=false)(HE:Tr X A (eval e env) f σ s y σ'):
  TrS X A env n₀ (exec (.Assign [.Name x p] e pos) env) f ⟨vars,ow,σ⟩ s .next ⟨(x,y)::vars,dropO x ow,σ'⟩:=by
 intro Q E hQ
 refine wpAny_Assign_Name (HE _ _ λv f1 hp1 t1 K1 S1 r1=> ?_) hs
 exact c0w C (R.kp' K1) S1 r1 hk hself λhp2 t2 m2 cm2 S2 R2 x0=>hQ _ f1 hp2 t2 m2 cm2 .next K1.le S2 R2
theorem w0c{e:Expr}{p:Pos}{y:V}{σ':Gs}(C:Cz X env n₀)(R:Rel X env n₀ f s.heap vars ow m cm)(HE:Tr X A (eval e env) f σ s y σ'):
  TrS X A env n₀ (exec (.Return (some e) p) env) f ⟨vars,ow,σ⟩ s (.ret y) ⟨vars,ow,σ'⟩:=by
 intro Q E hQ
 exact wpAny_Return_some (HE _ _ λv f1 hp1 t1 K1 S1 r1=>hQ _ f1 hp1 t1 m cm (.ret r1) K1.le S1 (R.kp' K1))
theorem f0e{t:Expr}{body orelse:List Stmt}{p:Pos}{b:Bool}{σ':Gs}{fl:Fl}{st':Sx}(C:Cz X env n₀)(R:Rel X env n₀ f s.heap vars ow m cm)
  (HT:TrG X A (isTrue t env (eval t env)) f σ s (λx0 c=>V.bool b= .bool c) σ')
  (H:∀f1 s1,Rel X env n₀ f1 s1.heap vars ow m cm->St X f1 σ' s1.heap->TrS X A env n₀ (execs (if b then body else orelse) env) f1 ⟨vars,ow,σ'⟩ s1 fl st'):
  TrS X A env n₀ (exec (.If t body orelse p) env) f ⟨vars,ow,σ⟩ s fl st':=by
 intro Q E hQ
 refine wpAny_If (HT _ _ λc f1 hp1 t1 K1 S1 r1=> ?_)
 obtain rfl:b=c:=by cases r1;rfl
 have z:=H f1 {s with heap:=hp1,toks:=t1} (R.kp' K1) S1 Q E λfl' f2 hp2 t2 m2 cm2 r2 K2 S2 R2=>hQ fl' f2 hp2 t2 m2 cm2 r2 (K1.le.trans K2) S2 R2
 cases b<;>exact z
end
noncomputable def pureOf{α:Type}:Sem α->Option α
 | .pure a=>some a
 |_=>none
theorem a0z{α:Type}{t:Sem α}{a:α}(h:pureOf t=some a):t=pure a:=by
 cases t<;>first|(cases h;rfl)|cases h
theorem d0e(ts:List Expr)(v:Expr)(env:Env):swappedStores ts v env=swappedStores ts v (dum env.scope):=rfl
noncomputable def notComp:Expr->Bool
 | .ListComp _ _ _ _=>false
 | .SetComp _ _ _ _=>false
 | .DictComp _ _ _ _ _=>false
 |_=>true
theorem a0r{v:Expr}{t:Option Expr}{line:Nat}{env:Env}(h:notComp v=true):swapsWith v t line env=pure false:=by
 cases v<;>first|rfl|cases h
noncomputable def unpVP(x:V):Option {l:List V // ∀(X:Cx)(f:FH)(v:Value),VR X f v x->VR X f v (.tup l)}:=match x with
 | .tup l=>some ⟨l,λx0 x0 x0 h=>h⟩
 | .abs d=>mapP (λx0 h x0 x0 x0 q=>h q) (unpP d)
 |_=>none
noncomputable def unpV(x:V):Option (List V):=valO (unpVP x)
structure AsgN(sc:Scope)(x:Str)(y:V)(st st':Sx):Prop where
 ok:okName x=true
 kd:kindOk sc x=true
 ns:seq x "self"=false
 eq:st'=⟨(x,y)::st.vars,dropO x st.ow,st.σ⟩
noncomputable def asgNP(sc:Scope)(x:Str)(y:V)(st:Sx):Option {st':Sx // AsgN sc x y st st'}:=onT (okName x) λh1=>onT (kindOk sc x) λh2=>onF (seq x "self") (λx0=>none) λh3=>some ⟨⟨(x,y)::st.vars,dropO x st.ow,st.σ⟩,h1,h2,h3,rfl⟩
noncomputable def asgN(sc:Scope)(x:Str)(y:V)(st:Sx):Option Sx:=valO (asgNP sc x y st)
theorem c0t{sc:Scope}{x:Str}{y:V}{st st':Sx}(h:asgN sc x y st=some st'):AsgN sc x y st st':=a0t h
theorem p0a{sc:Scope}{x:Str}{y:V}{st:Sx}(h1:okName x=true)(h2:kindOk sc x=true)(h3:seq x "self"=false):asgN sc x y st=some ⟨(x,y)::st.vars,dropO x st.ow,st.σ⟩:=by
 unfold asgN asgNP
 rw[t0c h1,t0c h2,onF_n h3];rfl
noncomputable def asgs(sc:Scope):List Str->List V->Sx->Option Sx
 |[],[],st=>some st
 |x::r,y::ys,st=>match asgN sc x y st with
  |some st₁=>asgs sc r ys st₁
  |none=>none
 |_,_,_=>none
theorem f0w{sc:Scope}{x:Str}{r:List Str}{ys:List V}{st st':Sx}(h:asgs sc (x::r) ys st=some st'):∃y yr st₁,ys=y::yr∧asgN sc x y st=some st₁∧asgs sc r yr st₁=some st':=by
 cases ys with
 |nil=>cases h
 |cons y yr=>
  have h:(match asgN sc x y st with|some st₁=>asgs sc r yr st₁|none=>none)=some st':=h
  cases q:asgN sc x y st with
  |none=>rw[q] at h;cases h
  |some st₁=>rw[q] at h;exact⟨y,yr,st₁,rfl,q,h⟩
theorem h0a{sc:Scope}{ys:List V}{st st':Sx}(h:asgs sc [] ys st=some st'):ys=[]∧st'=st:=by
 cases ys with
 |nil=>cases h;exact⟨rfl,rfl⟩
 |cons=>cases h
section
variable {X:Cx} {A:Around} {K:Kx} {n:Nat} {env:Env} {n₀:Bs} {m cm:Str->Option Value} {f:FH} {s:Shared} {st st':Sx}
noncomputable def TrA(X:Cx)(A:Around)(env:Env)(n₀:Bs)(t:Sem Unit)(f:FH)(s:Shared)(st':Sx):Prop:=
 ∀(Q:Unit->Shared->Prop)(E:Value->Shared->Prop),(∀h' t' m' cm',St X f st'.σ h'->Rel X env n₀ f h' st'.vars st'.ow m' cm'->Q () {s with heap:=h',toks:=t'})->wpAny X.M A t Q E s
theorem h0r(C:Cz X env n₀){x:Str}{y:V}{v:Value}(e:asgN env.scope x y st=some st')(hv:VR X f v y)(R:Rel X env n₀ f s.heap st.vars st.ow m cm)(S:St X f st.σ s.heap):
  TrA X A env n₀ (bindName env x v) f s st':=by
 obtain⟨h1,h2,h3,rfl⟩:=c0t e
 exact λQ E hQ=>bindName_ (c0w C R S hv h2 h3 λhp2 t2 m2 cm2 S2 R2 x0=>hQ hp2 t2 m2 cm2 S2 R2)
noncomputable abbrev Binds(X:Cx)(A:Around)(env:Env)(t:Value->Sem Unit)(x:Str):Prop:=∀v Q E s,wpAny X.M A (bindName env x v) Q E s->wpAny X.M A (t v) Q E s
theorem o0r(C:Cz X env n₀):∀{xs:List Str}{ys:List V}{vs:List Value}{st:Sx}{s:Shared}{m cm:Str->Option Value}(ts:List (Value->Sem Unit)),ts.length=xs.length->(∀(i:Nat)(t:Value->Sem Unit)(x:Str),ts[i]? =some t->xs[i]? =some x->Binds X A env t x)->
  asgs env.scope xs ys st=some st'->VRs X f vs ys->Rel X env n₀ f s.heap st.vars st.ow m cm->St X f st.σ s.heap->TrA X A env n₀ (assignInOrder ts vs) f s st':=by
 intro xs
 induction xs with
 |nil=>
  intro ys vs st s m cm ts hl ht e hv R S
  obtain⟨rfl,rfl⟩:=h0a e
  cases hv
  cases ts with
  |cons=>cases hl
  |nil=>exact λQ E hQ=>assignInOrder_nil (hQ s.heap s.toks m cm S R)
 |cons x r ih=>
  intro ys vs st s m cm ts hl ht e hv R S
  obtain⟨y,ys,st₁,rfl,e1,e⟩:=f0w e
  cases hv with
  |cons hv hr=>
  cases ts with
  |nil=>cases hl
  |cons t ts=>exact λQ E hQ=>assignInOrder_cons (ht 0 t x rfl rfl _ _ _ _ (h0r C e1 hv R S _ _ λh1 t1 m1 cm1 S1 R1=>
   ih (s:={s with heap:=h1,toks:=t1}) ts (Nat.succ.inj hl) (λi t x a b=>ht (i+1) t x a b) e hr R1 S1 Q E λh2 t2 m2 cm2 S2 R2=>hQ h2 t2 m2 cm2 S2 R2))
noncomputable def NamesOK(es:List Expr)(xs:List Str):Prop:=∀(X:Cx)(A:Around)(env:Env),(assignEach es env).length=xs.length∧(assignEach es env).findIdx? (·.1)=none∧
  ∀(i:Nat)(t:Value->Sem Unit)(x:Str),((assignEach es env).map (·.2))[i]? =some t->xs[i]? =some x->Binds X A env t x
theorem q0c:NamesOK [] []:=λX A env=>⟨rfl,rfl,λi t x a b=>nomatch b⟩
theorem m0g{x:Str}{p:Pos}{r:List Expr}{l:List Str}(h:NamesOK r l):NamesOK (.Name x p::r) (x::l):=λX A env=>by
 have z:=h X A env
 refine⟨congrArg Nat.succ z.1,?_,λi t y h1 h2=> ?_⟩
 ·show(((false,assign (.Name x p) env)::assignEach r env).findIdx? (·.1))=none
  rw[List.findIdx?_cons,z.2.1];rfl
 ·cases i with
  |zero=>
   cases(show some (assign (.Name x p) env)=some t from h1)
   cases(show some x=some y from h2)
   exact λv Q E s h=>wpAny_bind (wpAny_standAt h)
  |succ i=>exact z.2.2 i t y h1 h2
noncomputable def namesP:(es:List Expr)->Option {xs:List Str // NamesOK es xs}
 |[]=>some ⟨[],q0c⟩
 | .Name x p::r=>onP (namesP r) λl h=>some ⟨x::l,m0g h⟩
 |_=>none
noncomputable def namesE(es:List Expr):Option (List Str):=valO (namesP es)
theorem t0y{sc:Scope}:∀{xs:List Str}{ys:List V}{st st':Sx},asgs sc xs ys st=some st'->xs.length=ys.length:=by
 intro xs
 induction xs with
 |nil=>intro ys st st' e;rw[(h0a e).1];rfl
 |cons x r ih=>
  intro ys st st' e
  obtain⟨y,yr,st₁,rfl,_,e⟩:=f0w e
  exact congrArg Nat.succ (ih e)
end
noncomputable def AsgOK(sc:Scope)(t:Expr)(y:V)(st st':Sx):Prop:=∀(X:Cx)(A:Around)(env:Env)(n₀:Bs)(m cm:Str->Option Value)(f:FH)(s:Shared)(v:Value),sc=env.scope->A.handled=none->Cz X env n₀->VR X f v y->Rel X env n₀ f s.heap st.vars st.ow m cm->St X f st.σ s.heap->TrA X A env n₀ (assign t env v) f s st'
theorem p0b{sc:Scope}{es:List Expr}{k:Nat}{p:Pos}{y:V}{ys:List V}{xs:List Str}{st st':Sx}(h1:∀(X:Cx)(f:FH)(v:Value),VR X f v y->VR X f v (.tup ys))(h2:NamesOK es xs)(e:asgs sc xs ys st=some st'):AsgOK sc (.Tuple es k p) y st st':=λX A env n₀ m cm f s v hs hA C hv R S=>by
 have hv:=h1 _ _ _ hv
 cases hv using VR.eTup with
 | @tup a vs fv rv=>
 have z:=h2 X A env
 refine λQ E hQ=>assign_Tuple_tuple hA (S.tup fv) (by rw[z.1,List.size_toArray,rv.length,t0y e]) z.2.1 λh' he=> ?_
 have w:=R.turn C S (I:=s.heap.objs.size) (.inl ⟨dead _,λhg=>Nat.lt_irrefl _ (S.inv.lt _ hg)⟩) he (B2:=n₀) rfl rfl λp hp=>.inl ⟨hp,λq=>by
  have:=(R.pin p hp).1;rw[q,dead] at this;cases this⟩
 exact o0r (s:={s with heap:=h'}) C _ (by rw[List.length_map,z.1]) z.2.2 (by rw[←hs];exact e) rv w.1 w.2 Q E hQ
noncomputable def asgP(sc:Scope)(t:Expr)(y:V)(st:Sx):Option {st':Sx // AsgOK sc t y st st'}:=match t with
 | .Name x p=>onS (asgN sc x y st) λst' e=>some ⟨st',λX A env n₀ m cm f s v hs hA C hv R S Q E hQ=>wpAny_bind (wpAny_standAt (h0r C (by rw[←hs];exact e) hv R S Q E hQ))⟩
 | .Tuple es k p=>onP (unpVP y) λys h1=>onP (namesP es) λxs h2=>onS (asgs sc xs ys st) λst' e=>some ⟨st',p0b h1 h2 e⟩
 |_=>none
noncomputable def asg(sc:Scope)(t:Expr)(y:V)(st:Sx):Option Sx:=valO (asgP sc t y st)
theorem h0x{sc:Scope}{x:Str}{p:Pos}{y:V}{st st':Sx}(e:asgN sc x y st=some st'):asg sc (.Name x p) y st=some st':=(congrArg valO (d1o e)).trans rfl
theorem m0l{sc:Scope}{es:List Expr}{k:Nat}{p:Pos}{y:V}{ys:List V}{xs:List Str}{st st':Sx}(h1:unpV y=some ys)(h2:namesE es=some xs)(e:asgs sc xs ys st=some st'):asg sc (.Tuple es k p) y st=some st':=by
 show valO (onP (unpVP y) λys h1=>onP (namesP es) λxs h2=>onS (asgs sc xs ys st) λst' e=>some ⟨st',p0b h1 h2 e⟩)=_
 rw[(l0k h1 _).choose_spec,(l0k h2 _).choose_spec,d1o e]
 rfl
theorem o0c{X:Cx}{A:Around}{env:Env}{n₀:Bs}{m cm:Str->Option Value}{f:FH}{s:Shared}{st st':Sx}(hA:A.handled=none)(C:Cz X env n₀){t:Expr}{y:V}{v:Value}(e:asg env.scope t y st=some st')(hv:VR X f v y)(R:Rel X env n₀ f s.heap st.vars st.ow m cm)(S:St X f st.σ s.heap):
  TrA X A env n₀ (assign t env v) f s st':=a0t (o:=asgP env.scope t y st) e X A env n₀ m cm f s v rfl hA C hv R S
noncomputable def putF(x:Str)(y:V):List (Str × V)->List (Str × V)
 |[]=>[(x,y)]
 |p::r=>match seq x p.1 with
  |true=>(p.1,y)::r
  |false=>p::putF x y r
noncomputable def setOk(K:Ec)(C:Addr)(a:Str):Bool:=match lookA C K.sets with
 |some l=>memS a l
 |none=>false
section
variable {X:Cx} {A:Around} {K:Kx} {n:Nat} {env:Env} {n₀:Bs} {vars:Vars} {ow ow':Option (Str × Ow)} {m cm:Str->Option Value} {f:FH} {σ:Gs} {s:Shared} {h h':Heap} {a:Addr}
theorem VRd.put{x:Str}{v:Value}{y:V}{hs:Int}{t:Tok}(hv:VR X f v y){es:List DictEntry}{fs:List (Str × V)}(h:VRd X f es fs):VRd X f (putL x hs (.str x t) v es) (putF x y fs):=by
 refine h.ind (motive:=λes fs=>VRd X f (putL x hs (.str x t) v es) (putF x y fs)) (.cons rfl hv .nil) ?_
 intro e k t' z es fs he h1 r ih
 unfold putL putF
 rw[i0x he]
 dsimp only
 cases q:seq x k with
 |true=>exact .cons he hv r
 |false=>exact .cons he h1 ih
theorem VRd.length{es:List DictEntry}{fs:List (Str × V)}(h:VRd X f es fs):es.length=fs.length:=
 h.ind (motive:=λes fs=>es.length=fs.length) rfl λx0 x0 x0 ih=>congrArg Nat.succ ih
theorem VRd.norefs{es:List DictEntry}{fs:List (Str × V)}(h:VRd X f es fs):es.any (·.refKey)=false:=
 h.ind (motive:=λes fs=>es.any (·.refKey)=false) rfl λhe x0 x0 ih=>by rw[List.any_cons,ih,g0q he,Bool.false_or]
theorem Rel.mut(C:Cz X env n₀)(R:Rel X env n₀ f h vars ow m cm)(S:St X f σ h)(O:Own X env n₀ f a)(hs:Heap.SameBut a h h')
  (hO:∀x o,ow'=some (x,o)->∃v,valOf env m cm x=some v∧OR X env n₀ f h' v o):Rel X env n₀ f h' vars ow' m cm∧St X f σ h':=by
 obtain⟨S',K'⟩:=S.same C.stat R.kp O.1 hs
 refine⟨⟨K',R.me,λp hp=>⟨(hs.2 _ (O.1.pin p hp)).trans (R.pin p hp).1,(R.pin p hp).2⟩,⟨R.fm.ns.sameBut hs (Ne.symm O.2.1),R.fm.lo,λx c e=> ?_,R.fm.apart,λx c e=> ?_⟩,R.vars,hO⟩,S'⟩
 ·exact(R.fm.cell x c e).sameBut hs (O.2.2 _ (mem_of_lookup e))
 ·obtain⟨b1,b2,o,b3⟩:=R.fm.above x c e
  exact⟨b1,b2,o,(hs.2 _ (O.2.2 _ e)).trans b3⟩
set_option tactic.hygienic true in
theorem d0f(EK:EcOK X K.toEc)(C:Cz X env n₀){x:Str}{D:Addr}{fs:List (Str × V)}(R:Rel X env n₀ f s.heap vars (some (x,.ins D fs)) m cm)(S:St X f σ s.heap){nm:Str}{v:Value}{y:V}
  (hk:setOk K.toEc D nm=true)(hl:Nat.ble fs.length 900=true)(hv:VR X f v y){ov:Value}(hov:valOf env m cm x=some ov){Q:Unit->Shared->Prop}{E:Value->Shared->Prop}
  (hQ:∀h' t',St X f σ h'->Rel X env n₀ f h' vars (some (x,.ins D (putF nm y fs))) m cm->Q () {s with heap:=h',toks:=t'}):wpAny X.M A (setAttr ov nm v) Q E s:=by
 obtain⟨ov',e1,a,d,es,k,rfl,h1,h2,h3,h4,h5,h6⟩:=R.own _ _ rfl
 rw[hov] at e1;cases e1
 unfold setOk at hk
 split at hk
 case h_2=>cases hk
 rename_i l hl'
 obtain⟨p1,p2,p3,p4⟩:=EK.sets _ (b0h hl')
 have p4:=p4 _ (d0r hk)
 dsimp only at p1 p2 p3 p4
 have I:InstAt s.heap a (instObj D d) D (some (dictOf es k)):=⟨h1,rfl,rfl,h2⟩
 refine set_plain S.kin I p1 ?_
 refine osa_open (s:={s with toks:=s.toks+1}) S.kin I p2 p4 λb=> ?_
 dsimp only
 obtain⟨cd,hc,hd'⟩:=any_some p3
 refine wpAny_bind (wpAny_pure (wpAny_bind (wpAny_bind (wpAny_loadPart h1 (wpAny_bind (looks_clsIn (h:=s.heap) S.kin hc _ _ _ _ (λx0 x0 e=>e) ?_))))))
 rw[hd']
 refine wpAny_pure (a:=some d) (wpAny_bind (wpAny_pure (wpAny_bind ?_)))
 unfold nsSet
 refine wpAny_bind (wpAny_bind (wpAny_askSetting (wpAny_pure (wpAny_bind (wpAny_mkText (wpAny_bind (wpAny_loadPart h2 ?_)))))))
 dsimp only
 have hr:=h3.norefs
 rw[aRefKeyMayBeTheName_at]
 have:(!es.toArray.any (·.key.isStr nm)&&es.toArray.any (·.refKey))=false:=by
  rw[List.any_toArray,List.any_toArray,hr,Bool.and_false]
 rw[this]
 refine wpAny_updatePart h2 ?_
 generalize hh:s.heap.update d _=h'
 obtain⟨hsh,hh⟩:∃hsh,s.heap.update d (Obj.putName nm hsh (.str nm (s.toks+1)) v)=h':=⟨_,hh⟩
 have g:h'.get? d=some (dictOf (putL nm hsh (.str nm (s.toks+1)) v es) (putN nm es k)):=by
  rw[←hh]
  exact(Heap.get?_update_self (Obj.putName nm hsh (.str nm (s.toks+1)) v) h2 (by rw[putName_dict];rfl)).trans (congrArg some (putName_dict ..))
 have hs:Heap.SameBut d s.heap h':=hh▸Heap.SameBut.update ..
 obtain⟨R',S'⟩:=R.mut (ow':=some (x,.ins D (putF nm y fs))) C S h5 hs λx' o' e=>by
  cases e
  exact⟨_,hov,a,d,_,_,rfl,(hs.2 a h6).trans h1,g,h3.put hv,h4,h5,h6⟩
 refine wpAny_bind (wpAny_lookBehind g (pastItsLine_dict ?_) ?_)
 ·rw[List.size_toArray,(h3.put (x:=nm) (hs:=hsh) (t:=s.toks+1) hv).length]
  have hl:=Nat.le_of_ble_eq_true hl
  have:∀(l:List (Str × V)),(putF nm y l).length≤l.length+1:=by
   intro l
   induction l with
   |nil=>exact Nat.le_refl _
   |cons p r ih=>
    unfold putF
    split
    ·simp
    ·simpa using ih
  have:=this fs
  rw[line24];lia
 ·exact wpAny_pure (hQ _ _ S' R')
end
noncomputable def owV:Ow->V
 | .lst l n=>.lst l n
 | .ins C fs=>.obj C fs
 | .tot p q=>.obj 312 [("natural",.int 0),("stretch",.lst p p.length),("shrink",.lst q q.length)]
noncomputable def frz(st:Sx):Sx:=match st.ow with
 |some (x,o)=>⟨(x,owV o)::st.vars,none,st.σ⟩
 |none=>st
section
variable {X:Cx} {A:Around} {K:Kx} {n:Nat} {env:Env} {n₀:Bs} {vars:Vars} {ow ow':Option (Str × Ow)} {m cm:Str->Option Value} {f:FH} {σ:Gs} {s:Shared} {h h' h1 h2:Heap} {a:Addr}
theorem FH.put_le'{o:Obj}(e:f a=none):f.le (f.put a o):=λb x q=>by
 unfold FH.put
 rw[if_neg (λz=>by subst z;rw[e] at q;cases q)];exact q
theorem FH.put_other{o:Obj}{b:Addr}(e:b≠a):(f.put a o) b=f b:=by unfold FH.put;rw[if_neg e]
theorem Fresh.put{o:Obj}{b:Addr}(F:Fresh X n₀ f b)(e:b≠a):Fresh X n₀ (f.put a o) b:=⟨F.at0,F.ng,by rw[FH.put_other e];exact F.off,F.pin⟩
theorem Own.put{o:Obj}{b:Addr}(F:Own X env n₀ f b)(e:b≠a):Own X env n₀ (f.put a o) b:=⟨F.1.put e,F.2⟩
theorem Rel.put(R:Rel X env n₀ f h vars none m cm)(S:St X f σ h)(O:Own X env n₀ f a){o:Obj}(e:h.get? a=some o):Rel X env n₀ (f.put a o) h vars none m cm∧St X (f.put a o) σ h∧f.le (f.put a o):=by
 have le:f.le (f.put a o):=FH.put_le' O.1.off
 refine⟨⟨⟨R.kp.keep,R.kp.le.trans le,λb x q=> ?_⟩,R.me,λp hp=> ?_,⟨R.fm.ns,R.fm.lo.put (Ne.symm O.2.1),R.fm.cell,R.fm.apart,λx c q=> ?_⟩,λx y q=> ?_,λx o q=>by cases q⟩,⟨λb x q=>le _ _ (S.base b x q),λb x q=> ?_,S.inv,λb hb=> ?_,S.nolim⟩,le⟩
 ·unfold FH.put at q
  split at q
  ·rename_i z;subst z;exact .inr ⟨O.1.at0,O.1.ng⟩
  ·exact R.kp.new b x q
 ·obtain⟨b1,b2,b3,b4⟩:=R.pin p hp
  exact⟨b1,b2,b3,by rw[FH.put_other (O.1.pin p hp)];exact b4⟩
 ·obtain⟨b1,b2,b3⟩:=R.fm.above x c q
  exact⟨b1.put (O.2.2 _ q),b2,b3⟩
 ·obtain⟨v,b1,b2⟩:=R.vars x y q
  exact⟨v,b1,b2.mono le⟩
 ·unfold FH.put at q
  split at q
  ·rename_i z;subst z;cases q;exact e
  ·exact S.isIn _ _ q
 ·rw[FH.put_other (show b≠a from λz=>O.1.ng (by rw[←z];exact hb))];exact S.off b hb
theorem Rel.noOwn(R:Rel X env n₀ f h vars ow m cm):Rel X env n₀ f h vars none m cm:=⟨R.kp,R.me,R.pin,R.fm,R.vars,λx o q=>by cases q⟩
theorem Rel.var(R:Rel X env n₀ f h vars none m cm){x:Str}{v:Value}{y:V}(e:valOf env m cm x=some v)(hv:VR X f v y):Rel X env n₀ f h ((x,y)::vars) none m cm:=
 ⟨R.kp,R.me,R.pin,R.fm,λz w q=>by
  rw[b0g] at q
  split at q
  ·rename_i z;subst z;cases q;exact⟨v,e,hv⟩
  ·exact R.vars z w q,λx o q=>by cases q⟩
theorem j0e{x:Str}{o:Ow}(R:Rel X env n₀ f h vars (some (x,o)) m cm)(S:St X f σ h):∃f',f.le f'∧St X f' σ h∧Rel X env n₀ f' h ((x,owV o)::vars) none m cm:=by
 obtain⟨v,e,O⟩:=R.own _ _ rfl
 cases o with
 |lst l n=>
  obtain⟨a,vs,k,rfl,h1,h2,h3,h4⟩:=O
  obtain⟨R1,S1,le⟩:=R.noOwn.put S h4 h1
  exact⟨_,le,S1,R1.var e (.lst (FH.put_self ..) (h2.mono le) h3)⟩
 |ins D fs=>
  obtain⟨a,d,es,k,rfl,h1,h2,h3,h4,h5,h6⟩:=O
  obtain⟨R1,S1,le1⟩:=R.noOwn.put S h5 h2
  obtain⟨R2,S2,le2⟩:=R1.put S1 (h4.put h6) h1
  exact⟨_,le1.trans le2,S2,R2.var e (.obj (FH.put_self ..) (le2 _ _ (FH.put_self ..)) (h3.mono (le1.trans le2)))⟩
 |tot p q=>
  obtain⟨a,d,es,k,i,j,vs,ws,kn,ks,rfl,h1,h2,⟨t,t1,t2,t3,e1,e2,e3,rfl⟩,h4,h5,h6,h7,o1,o2,o3,o4,nd⟩:=O
  simp only [List.nodup_cons,List.mem_cons,List.not_mem_nil,or_false,not_or] at nd
  obtain⟨⟨n1,n2,n3⟩,⟨n4,n5⟩,n6,-⟩:=nd
  obtain⟨R1,S1,le1⟩:=R.noOwn.put S o4 h5
  obtain⟨R2,S2,le2⟩:=R1.put S1 (o3.put n6) h4
  obtain⟨R3,S3,le3⟩:=R2.put S2 ((o2.put n5).put n4) h2
  obtain⟨R4,S4,le4⟩:=R3.put S3 (((o1.put n3).put n2).put n1) h1
  have l2:=le1.trans le2
  have l3:=l2.trans le3
  have l4:=l3.trans le4
  refine⟨_,l4,S4,R4.var e (.obj (FH.put_self ..) (le4 _ _ (FH.put_self ..)) (.cons rfl (.int _ _) (.cons rfl (.lst ((le3.trans le4) _ _ (FH.put_self ..)) (h6.mono l4) (Nat.le_refl _)) (.cons rfl (.lst ((le2.trans (le3.trans le4)) _ _ (FH.put_self ..)) (h7.mono l4) (Nat.le_refl _)) .nil))))⟩
set_option tactic.hygienic true in
theorem x0b{st:Sx}(R:Rel X env n₀ f h st.vars st.ow m cm)(S:St X f st.σ h):∃f',f.le f'∧St X f' (frz st).σ h∧Rel X env n₀ f' h (frz st).vars (frz st).ow m cm:=by
 unfold frz
 split
 ·rename_i x o e
  rw[e] at R
  exact j0e R S
 ·rename_i e
  rw[e] at R
  exact⟨f,FH.le.refl f,S,by rw[e];exact R⟩
theorem Rel.pinNew(C:Cz X env n₀)(R:Rel X env n₀ f h1 vars ow m cm)(S:St X f σ h1){o:Obj}(hf:o.isFreed=false):
  Rel X env {n₀ with pins:=(h1.objs.size,o)::n₀.pins} f (h1.push o) vars ow m cm∧St X f σ (h1.push o):=
 R.turn C S (I:=h1.objs.size) (.inl ⟨dead _,λhg=>Nat.lt_irrefl _ (S.inv.lt _ hg)⟩) (pushBut _ _) rfl rfl λp hp=>by
  rcases List.mem_cons.mp hp with rfl|hp
  ·exact .inr ⟨rfl,Heap.get?_push_size _ hf⟩
  ·exact .inl ⟨hp,λq=>by have:=(R.pin p hp).1;rw[q,dead] at this;cases this⟩
theorem Cz.pins(C:Cz X env n₀)(l:List (Addr × Obj)):Cz X env {n₀ with pins:=l}:=⟨C.kind,C.glob,C.blt,C.stat,C.hcl⟩
theorem Fresh.unpin{l:List (Addr × Obj)}(F:Fresh X {n₀ with pins:=l} f a)(hl:∀p∈n₀.pins,p∈l):Fresh X n₀ f a:=⟨F.at0,F.ng,F.off,λp hp=>F.pin p (hl p hp)⟩
theorem Rel.unpin{l:List (Addr × Obj)}(hl:∀p∈n₀.pins,p∈l)(R:Rel X env {n₀ with pins:=l} f h vars ow m cm):Rel X env n₀ f h vars ow m cm:=
 R.map R.kp rfl (λp hp=>R.pin p (hl p hp)) (.refl f) λa o F e=>⟨e,F.unpin hl⟩
theorem Rel.ownOf{l:List (Addr × Obj)}(hl:∀p∈n₀.pins,p∈l)(R:Rel X env {n₀ with pins:=l} f h vars ow m cm){o:Obj}(hp:(a,o)∈l)(hn:∀p∈n₀.pins,p.1≠a):Own X env n₀ f a∧h.get? a=some o:=by
 obtain⟨b1,b2,b3,b4⟩:=R.pin _ hp
 exact⟨⟨⟨b3,b2,b4,hn⟩,λq=>R.fm.lo.pin _ hp q,λx hx q=>(R.fm.above x.1 x.2 hx).1.pin _ hp q.symm⟩,b1⟩
theorem r0t(C:Cz X env n₀){x:Str}{l:List V}{k:Nat}(R:Rel X env n₀ f s.heap vars (some (x,.lst l k)) m cm)(S:St X f σ s.heap){v:Value}{y:V}(hv:VR X f v y)(hk:Nat.ble k 16777000=true)
  {ov:Value}(hov:valOf env m cm x=some ov){Q:Value->Shared->Prop}{E:Value->Shared->Prop}(hQ:∀h' t',St X f σ h'->Rel X env n₀ f h' vars (some (x,.lst (l++[y]) (k+1))) m cm->Q .none {s with heap:=h',toks:=t'}):
  wpAny X.M A (call (.builtin "list.append") [ov,v]) Q E s:=by
 obtain⟨ov',e1,a,vs,j,rfl,h1,h2,h3,h4⟩:=R.own _ _ rfl
 rw[hov] at e1;cases e1
 have hk:=Nat.le_of_ble_eq_true hk
 refine wpAny_list_append_plain (items:=vs.toArray) ⟨_,h1⟩ (λh' hl hs=> ?_) (by rw[List.size_toArray,h2.length,line24];lia)
 obtain⟨n',hl⟩:=hl
 obtain⟨R',S'⟩:=R.mut (ow':=some (x,.lst (l++[y]) (k+1))) C S h4 hs λx' o' e=>by
  cases e
  refine⟨_,hov,a,vs++[v],n',rfl,?_,h2.append (.one hv),by rw[List.length_append];exact Nat.add_le_add_right h3 1,h4⟩
  rw[hl];simp
 exact hQ _ _ S' R'
end
noncomputable def evFor(as:V->Sx->Option Sx)(b:Sx->Option (Fl × Sx)):List V->Sx->Option (Fl × Sx)
 |[],st=>some (.next,st)
 |x::xs,st=>match as x st with
  |some st₁=>match b st₁ with
   |some (.next,st₂)=>evFor as b xs st₂
   |some (.brk,st₂)=>some (.next,st₂)
   |some (.ret y,st₂)=>some (.ret y,st₂)
   |none=>none
  |none=>none
noncomputable def plainV:V->Bool
 | .none=>true
 | .bool _=>true
 | .int _=>true
 | .num _=>true
 | .dimn _=>true
 | .oct _=>true
 | .str _=>true
 |_=>false
theorem n0j{X:Cx}{f:FH}{v:Value}{y:V}(h:VR X f v y)(e:plainV y=true):∀a,v≠.ref a:=by
 intro a q
 subst q
 cases h<;>cases e
inductive ForJ(X:Cx)(env:Env)(n₀:Bs)(f:FH)(I:Addr)(J:List V->Sx->Prop)(s:Shared)(j:Nat)(s':Shared):Prop
 |mk (xs:List V) (st:Sx) (f2:FH) (h:Heap) (m cm:Str->Option Value) (t:Nat) (oI:Obj) (e1:j=xs.length) (e2:s'={s with heap:=h,toks:=t}) (h1:J xs st) (h2:f.le f2) (h3:ItR X f2 h I xs) (h4:h.get? I=some oI) (h5:Rel X env {n₀ with pins:=(I,oI)::n₀.pins} f2 h st.vars st.ow m cm) (h6:St X f2 st.σ h)
inductive Aft(J:List V->Sx->Prop)(D:Fl->Sx->Prop)(xs:List V):Fl->Sx->Prop
 |next {st:Sx} (h:J xs st):Aft J D xs .next st
 |brk {st:Sx} (h:D .next st):Aft J D xs .brk st
 |ret {y:V} {st:Sx} (h:D (.ret y) st):Aft J D xs (.ret y) st
noncomputable def BodyOK(X:Cx)(A:Around)(env:Env)(body:List Stmt)(st:Sx)(fl:Fl)(st':Sx):Prop:=∀(n₀:Bs)(f:FH)(s:Shared)(m cm:Str->Option Value),Cz X env n₀->Rel X env n₀ f s.heap st.vars st.ow m cm->St X f st.σ s.heap->TrS X A env n₀ (execs body env) f st s fl st'
noncomputable def TgtOK(t:Expr):Prop:=∀(X:Cx)(A:Around)(s:Shared)(I:Addr)(xs:List V)(f:FH)(v:Value)(Q:Unit->Shared->Prop)(E:Value->Shared->Prop),ItR X f s.heap I xs->Q () s->wpAny X.M A (letOwnedTupleGo t (.ref I) v) Q E s
theorem e0b{x:Str}{p:Pos}:TgtOK (.Name x p):=λx0 x0 x0 x0 x0 x0 x0 x0 x0 x0 h=>wpAny_pure h
theorem m0f{as:V->Sx->Option Sx}{b:Sx->Option (Fl × Sx)}{x:V}{xs:List V}{st:Sx}{p:Fl × Sx}(h:evFor as b (x::xs) st=some p):∃st₁,as x st=some st₁∧((∃st₂,b st₁=some (.next,st₂)∧evFor as b xs st₂=some p)∨(b st₁=some (.brk,p.2)∧p.1= .next)∨∃y,b st₁=some (.ret y,p.2)∧p.1= .ret y):=by
 have h:(match as x st with
  |some st₁=>(match b st₁ with
   |some (.next,st₂)=>evFor as b xs st₂
   |some (.brk,st₂)=>some (.next,st₂)
   |some (.ret y,st₂)=>some (.ret y,st₂)
   |none=>none)
  |none=>none)=some p:=h
 cases q:as x st with
 |none=>rw[q] at h;cases h
 |some st₁=>
  rw[q] at h
  refine⟨st₁,rfl,?_⟩
  cases w:b st₁ with
  |none=>dsimp only at h;rw[w] at h;cases h
  |some z=>
   dsimp only at h
   rw[w] at h
   obtain⟨fl,st₂⟩:=z
   cases fl with
   |next=>exact .inl ⟨st₂,rfl,h⟩
   |brk=>cases h;exact .inr (.inl ⟨rfl,rfl⟩)
   |ret y=>cases h;exact .inr (.inr ⟨y,rfl,rfl⟩)
section
variable {X:Cx} {A:Around} {K:Kx} {n:Nat} {env:Env} {n₀:Bs} {m cm:Str->Option Value} {f:FH} {s:Shared} {st st':Sx} {fl:Fl} {h h':Heap}
theorem f0o{σ:Gs}(S:St X f σ h):¬X.G h.objs.size:=λhg=>Nat.lt_irrefl _ (S.inv.lt _ hg)
theorem r0s(hh:A.handled=none)(C:Cz X env n₀){tgt:Expr}(hg:TgtOK tgt){pos:Pos}{iter:Expr}{body:List Stmt}{it:V}{xs:List V}{σ₁:Gs}(J:List V->Sx->Prop)(D:Fl->Sx->Prop)(R:Rel X env n₀ f s.heap st.vars st.ow m cm)(S:St X f st.σ s.heap)
  (HI:Tr X A (eval iter env) f st.σ s it σ₁)(hx:seqV it=some xs)(hset:notSet iter=true)(h0:J xs {st with σ:=σ₁})(hn:∀st,J [] st->D .next st)
  (turn:∀y xs st,J (y::xs) st->∃st₁ fl st₂,asg env.scope tgt y st=some st₁∧BodyOK X A env body st₁ fl st₂∧Aft J D xs fl st₂)
  {Q:Flow->Shared->Prop}{E:Value->Shared->Prop}(hQ:∀fl st',D fl st'->∀fl' f' h' t' m' cm',FlR X f' fl' fl->f.le f'->St X f' st'.σ h'->Rel X env n₀ f' h' st'.vars st'.ow m' cm'->Q fl' {s with heap:=h',toks:=t'}):wpAny X.M A (exec (.For tgt iter body [] pos) env) Q E s:=by
 refine wpAny_For (hs:=λv=>c0q hset) (HI _ _ λv f1 h1 t1 K1 S1 hv=> ?_)
 have R1:=R.kp' K1
 refine h0h (s:={s with heap:=h1,toks:=t1}) S1 hv hx λI h2 dI gI be hit=> ?_
 dsimp only at dI be
 obtain⟨oI,lI⟩:=hit.live
 have hni:∀p∈n₀.pins,p.1≠I:=λp hp q=>Option.some_ne_none _ ((R1.pin p hp).1.symm.trans (q▸dI))
 obtain⟨R2,S2⟩:=R1.turn C S1 (I:=I) (.inl ⟨dI,gI⟩) be (B2:={n₀ with pins:=(I,oI)::n₀.pins}) rfl rfl (a0m (.inr ⟨rfl,lI⟩) λp hp=>.inl ⟨hp,hni p hp⟩)
 refine codeAny_forLoop_any (ForJ X env n₀ f I J s) ?_ xs.length ⟨xs,_,f1,h2,m,cm,t1,oI,rfl,rfl,h0,K1.le,hit,lI,R2,S2⟩
 clear R2 S2 lI oI h0 hit
 rintro j s' ⟨xs,st,f2,h,m,cm,t,oI,rfl,rfl,e1,le,hit,lI,R2,S2⟩
 have hp:∃p∈({n₀ with pins:=(I,oI)::n₀.pins}:Bs).pins,p.1=I:=⟨_,.head _,rfl⟩
 cases xs with
 |nil=>
  refine l0e hh S2 hit λh' he=> ?_
  have R3:=R2.turn (C.pins _) S2 (I:=I) (.inr hp) he (B2:=n₀) rfl rfl λp hp=>.inl ⟨.tail _ hp,hni p hp⟩
  exact wpAny_execs_nil (hQ _ _ (hn _ e1) _ f2 h' t m cm .next le R3.2 R3.1)
 |cons y xs=>
  obtain⟨st₁,fl,st₂,a1,b1,e1⟩:=turn _ _ _ e1
  refine h0z S2 hit λv h' t' hv hs1 hit'=> ?_
  obtain⟨oI',lI'⟩:=hit'.live
  have R3:=R2.turn (C.pins _) S2 (I:=I) (.inr hp) hs1.extBut (B2:={n₀ with pins:=(I,oI')::n₀.pins}) rfl rfl (a0m (.inr ⟨rfl,lI'⟩) λp hp=>.inl ⟨.tail _ hp,hni p hp⟩)
  refine hg _ _ {s with heap:=h',toks:=t'} _ _ _ _ _ _ hit' (o0c (s:={s with heap:=h',toks:=t'}) hh (C.pins _) a1 hv R3.1 R3.2 _ _ λh4 t4 m4 cm4 S4 R4=>b1 _ f2 {s with heap:=h4,toks:=t4} m4 cm4 (C.pins _) R4 S4 _ _ λfl' f5 h5 t5 m5 cm5 r5 le5 S5 R5=> ?_)
  cases e1 with
  |next e1=>
   cases r5
   have lI5:=(R5.pin _ (.head _)).1
   exact⟨xs.length,Nat.lt_succ_self _,xs,st₂,f5,h5,m5,cm5,t5,oI',rfl,rfl,e1,le.trans le5,hit'.keep le5 λo e=>Option.some.inj (lI'.symm.trans e)▸lI5,lI5,R5,S5⟩
  |brk e1=>
   cases r5
   exact hQ _ _ e1 _ f5 h5 t5 m5 cm5 .next (le.trans le5) S5 (R5.unpin λp hp=>.tail _ hp)
  |ret e1=>
   cases r5 with
   |ret r5=>exact hQ _ _ e1 _ f5 h5 t5 m5 cm5 (.ret r5) (le.trans le5) S5 (R5.unpin λp hp=>.tail _ hp)
theorem d1m(hh:A.handled=none)(C:Cz X env n₀){x:Str}{px pos:Pos}{iter:Expr}{body:List Stmt}{it:V}{xs:List V}{σ₁:Gs}{b:Sx->Option (Fl × Sx)}(R:Rel X env n₀ f s.heap st.vars st.ow m cm)(S:St X f st.σ s.heap)
  (HI:Tr X A (eval iter env) f st.σ s it σ₁)(hx:seqV it=some xs)(hset:notSet iter=true)
  (HB:∀(st:Sx)(fl:Fl)(st':Sx),b st=some (fl,st')->BodyOK X A env body st fl st')
  (he:evFor (asgN env.scope x) b xs {st with σ:=σ₁}=some (fl,st')):TrS X A env n₀ (exec (.For (.Name x px) iter body [] pos) env) f st s fl st':=λQ E hQ=>
 r0s hh C e0b (λxs st=>evFor (asgN env.scope x) b xs st=some (fl,st')) (λfl₁ st₁=>fl₁=fl∧st₁=st') R S HI hx hset he (λst h=>Prod.mk.inj (Option.some.inj h)) (λy xs st h=>by
  obtain⟨st₁,a1,⟨st₂,b1,e1⟩|⟨b1,e1⟩|⟨z,b1,e1⟩⟩:=m0f h
  ·exact⟨st₁,_,st₂,h0x a1,HB _ _ _ b1,.next e1⟩
  ·exact⟨st₁,_,st',h0x a1,HB _ _ _ b1,.brk ⟨e1.symm,rfl⟩⟩
  ·exact⟨st₁,_,st',h0x a1,HB _ _ _ b1,.ret ⟨e1.symm,rfl⟩⟩) λx0 x0 e=>e.1▸e.2▸hQ
inductive ForZ{α:Type}(g:α->V)(L:List α)(Z:List α->Sx):List V->Sx->Prop
 |mk (done rest:List α) (e:L=done++rest):ForZ g L Z (rest.map g) (Z done)
theorem d0b{α:Type}(g:α->V)(L:List α)(Z:List α->Sx)(hh:A.handled=none)(C:Cz X env n₀){tgt:Expr}(hg:TgtOK tgt){pos:Pos}{iter:Expr}{body:List Stmt}{it:V}(R:Rel X env n₀ f s.heap (Z []).vars (Z []).ow m cm)(S:St X f (Z []).σ s.heap)
  (HI:Tr X A (eval iter env) f (Z []).σ s it (Z []).σ)(hx:seqV it=some (L.map g))(hset:notSet iter=true)
  (turn:∀done p rest,L=done++p::rest->∃st₁,asg env.scope tgt (g p) (Z done)=some st₁∧BodyOK X A env body st₁ .next (Z (done++[p]))):TrS X A env n₀ (exec (.For tgt iter body [] pos) env) f st s .next (Z L):=λQ E hQ=>
 r0s (st:=Z []) hh C hg (ForZ g L Z) (λfl st=>fl= .next∧st=Z L) R S HI hx hset (.mk [] L rfl) (λst h=>by
  generalize e:([]:List V)=xs at h
  cases h with
  |mk done rest e1=>
   cases rest with
   |nil=>exact⟨rfl,congrArg Z ((List.append_nil done).symm.trans e1.symm)⟩
   |cons _ _=>cases e) (λy xs st h=>by
  generalize e:y::xs=l at h
  cases h with
  |mk done rest e1=>
   cases rest with
   |nil=>cases e
   |cons p rest=>
    cases e
    exact(turn done p rest e1).elim λst₁ q=>⟨st₁,_,_,q.1,q.2,.next (.mk _ rest (e1.trans (List.append_cons ..)))⟩) λx0 x0 e=>e.1▸e.2▸hQ
end
noncomputable def OwnA(e:Expr)(ow:Option (Str × Ow))(arg:Expr):Prop:=∀z l k,ow=some (z,.lst l k)->∃p apos pos,e= .Call (.Attribute (.Name z p) "append" apos) [arg] [] pos∧Nat.beq apos.endLine pos.line=true∧plainArg arg=true∧okName z=true
noncomputable def ownAppendP(e:Expr)(ow:Option (Str × Ow)):Option {arg:Expr // OwnA e ow arg}:=match e,ow with
 | .Call (.Attribute (.Name x p) a apos) [arg] [] pos,some (z,o)=>onT (seq x z) λh1=>onT (seq a "append") λh2=>onT (Nat.beq apos.endLine pos.line) λh4=>onT (plainArg arg) λh5=>onT (okName x) λh6=>match o with
  | .lst _ _=>some ⟨arg,λz' l k hz=>by
   cases hz
   cases(a0h _ _).mp h1
   cases(a0h _ _).mp h2
   exact⟨_,_,_,rfl,h4,h5,h6⟩⟩
  |_=>none
 |_,_=>none
noncomputable def ownAppend(e:Expr)(ow:Option (Str × Ow)):Option Expr:=valO (ownAppendP e ow)
theorem i0p{e arg:Expr}{z:Str}{l:List V}{k:Nat}(h:ownAppend e (some (z,.lst l k))=some arg):∃p apos pos,e= .Call (.Attribute (.Name z p) "append" apos) [arg] [] pos∧Nat.beq apos.endLine pos.line=true∧plainArg arg=true∧okName z=true:=a0t (o:=ownAppendP e _) h z l k rfl
noncomputable def IopOK(op:Operator)(x y z:V):Prop:=∀(X:Cx)(A:Around)(f:FH)(σ:Gs)(s:Shared)(v w:Value),St X f σ s.heap->VR X f v x->VR X f w y->Tr X A (inplaceOp op v w) f σ s z σ
noncomputable def iopP(op:Operator)(x y:V):Option {z:V // IopOK op x y z}:=match op,x,y with
 | .Add,.str a,.str b=>onT (Nat.ble (wlen a+wlen b) 16777216) λh3=>some ⟨.str (a++b),λx0 x0 x0 x0 s x0 x0 S hv hw Q E hQ=>by
  cases hv using VR.eStr with
  |str t ha=>
  cases hw using VR.eStr with
  |str u hb=>
  refine SB.iadd (λt' k=> ?_) (Nat.le_trans (Nat.add_le_add (a0s ha) (a0s hb)) (Nat.le_of_ble_eq_true h3))
  rw[←a0c]
  exact here S hQ (.str _ (a0p ha hb))⟩
 |_,_,_=>none
noncomputable def iopV(op:Operator)(x y:V):Option V:=valO (iopP op x y)
theorem c1z{X:Cx}{A:Around}{f:FH}{σ:Gs}{s:Shared}{op:Operator}{x y z:V}{v w:Value}(S:St X f σ s.heap)(hv:VR X f v x)(hw:VR X f w y)(e:iopV op x y=some z):Tr X A (inplaceOp op v w) f σ s z σ:=a0t e _ _ _ _ _ _ _ S hv hw
noncomputable abbrev RcS:=Stmt->Sx->Option (Fl × Sx)
section
variable {X:Cx} {A:Around} {K:Kx} {n:Nat} {env:Env} {n₀:Bs} {vars:Vars} {m cm:Str->Option Value} {f f':FH} {s:Shared} {st st':Sx} {fl:Fl} {h h':Heap} {σ σ':Gs}
theorem b0n(v:Expr)(t:Option Expr)(line:Nat)(env:Env):swapsWith v t line env=swapsWith v t line (dum env.scope):=rfl
theorem Rel.pinAt(R:Rel X env n₀ f h vars none m cm)(K:Kp X f h f' h'){L:Addr}(hL:h.get? L=none)(gL:¬X.G L)(fL:f' L=none){o:Obj}(lL:h'.get? L=some o):Rel X env {n₀ with pins:=(L,o)::n₀.pins} f' h' vars none m cm:=by
 have R':=R.kp' K
 have ne:∀{b o},h.get? b=some o->b≠L:=λ{b o} e q=>by rw[q,hL] at e;cases e
 have fr:∀{b o},h.get? b=some o->Fresh X n₀ f' b->Fresh X {n₀ with pins:=(L,o)::n₀.pins} f' b:=λ{b o} e F=>⟨F.at0,F.ng,F.off,λp hp=>by
  rcases List.mem_cons.mp hp with rfl|hp
  ·exact(ne e).symm
  ·exact F.pin p hp⟩
 have fr':∀{b o'},h.get? b=some o'->Fresh X n₀ f' b->Fresh X {n₀ with pins:=(L,o)::n₀.pins} f' b:=λ{b o'} e F=>⟨F.at0,F.ng,F.off,λp hp=>by
  rcases List.mem_cons.mp hp with rfl|hp
  ·exact(ne e).symm
  ·exact F.pin p hp⟩
 refine⟨R'.kp,R'.me,λp hp=> ?_,⟨R'.fm.ns,?_,R'.fm.cell,R'.fm.apart,λx c e=> ?_⟩,R'.vars,λx o e=>by cases e⟩
 ·rcases List.mem_cons.mp hp with rfl|hp
  ·refine⟨lL,gL,?_,fL⟩
   show n₀.h₀.get? L=none
   exact b0i (λo q=>R.kp.keep _ _ q gL) (hL)
  ·exact R'.pin p hp
 ·obtain⟨o',es,ep,e,_⟩:=R.fm.ns
  exact fr' e R'.fm.lo
 ·obtain⟨a,b,o',e'⟩:=R.fm.above x c e
  obtain⟨a',b',c'⟩:=R'.fm.above x c e
  exact⟨fr' e' a',b',c'⟩
end
section
variable {X:Cx} {A:Around} {K:Kx} {n:Nat} {env:Env} {n₀:Bs} {vars:Vars} {m cm:Str->Option Value} {f f':FH} {s:Shared} {st st':Sx} {fl:Fl} {h h':Heap} {σ σ':Gs} {W:List Str}
variable {vars':Vars} {ow:Option (Str × Ow)} {a:Addr}
theorem St.re(S:St X f σ h)(I:Inv X σ' h):St X f σ' h:=⟨S.base,S.isIn,I,S.off,S.nolim⟩
theorem Rel.g(R:Rel X env n₀ f h vars ow m cm)(S:St X f σ h)(ga:X.G a)(hs:Heap.SameBut a h h')(I:Inv X σ' h'):Rel X env n₀ f h' vars ow m cm∧St X f σ' h':=by
 have ne:∀{b},¬X.G b->b≠a:=λ{b} g q=>g (by rw[q];exact ga)
 have k:∀{b o},¬X.G b->h.get? b=some o->h'.get? b=some o:=λ{b o} g e=>(hs.2 b (ne g)).trans e
 refine⟨R.map ⟨λb o e g=>k g (R.kp.keep _ _ e g),R.kp.le,R.kp.new⟩ rfl (λp hp=>⟨k (R.pin p hp).2.1 (R.pin p hp).1,(R.pin p hp).2⟩) (.refl f) λa o F e=>⟨k F.ng e,F⟩,⟨S.base,λb o e=> ?_,I,S.off,?_⟩⟩
 ·exact(hs.2 b (λq=>by rw[q,S.off a ga] at e;cases e)).trans (S.isIn _ _ e)
 ·refine S.nolim.sameBut hs ?_
  obtain⟨j,hj,rfl⟩:=ga
  exact(I.gs j hj).symm
theorem m0r{k:Str}{v:Value}:∀{kvs:List (Str × Value)},(∀p∈kvs,p.1≠k)->stored kvs k v=kvs++[(k,v)]:=by
 intro kvs h
 unfold stored
 rw[if_neg]
 simp only [List.any_eq_true,decide_eq_true_eq,not_exists,not_and]
 exact h
theorem setFin{X:Cx}{f:FH}{h:Heap}{σ σ₂:Gs}{D D':List (Str × Int)}{T:List Str}{k:Str}{n:Int}{u:Tok}{kvs:List (Str × Value)}(S:St X f σ h)(hn:namesOf σ.md σ.nb=some (D,T))(e1:σ₂.ds=σ.ds)(e2:σ₂.e=σ.e)(hn':namesOf σ₂.md σ₂.nb=some (D',T))(hne:∀p∈kvs,p.1≠k)(hiv:IntVals (kvs++[(k,.int n u)]) D')
  (h':Heap)(hd':h'.DictOf (strKind X.P X.w) (X.g 1) (stored kvs k (.int n u)))(hs:Heap.SameBut (X.g 1) h h'):Inv X σ₂ h':=by
 obtain⟨I1,I2,I3,I4,I5⟩:=S.inv
 rw[m0r hne] at hd'
 have z:=I5 D T hn
 obtain⟨a1,_,vs,m,t1,t2⟩:=z
 obtain⟨p,t',u',q1,q2⟩:=I1
 refine⟨⟨p,t',u',λhn=>d0j (q1 hn) λo e=>(hs.2 _ a1.1).trans e,by rw[e1,e2];exact q2⟩,λj hj=> ?_,I3,by rw[e2];exact I4,λD'' T'' hm=> ?_⟩
 ·by_cases q:X.g j=X.g 1
  ·obtain⟨o,es,ep,e,_⟩:=hd'
   exact⟨o,by rw[q];exact e⟩
  ·obtain⟨o,e⟩:=I2 j hj
   exact⟨o,(hs.2 _ q).trans e⟩
 ·rw[hn'] at hm;cases hm
  exact⟨a1,⟨_,hd',(I5 D T hn).2.1.choose_spec.2.1,hiv⟩,vs,m,(hs.2 _ (Ne.symm a1.2.2.1)).trans t1,t2⟩
noncomputable def SetOKN(σ:Gs)(w:Wd)(y:V)(σ₂:Gs):Prop:=∃D T,namesOf σ.md σ.nb=some (D,T)∧∀(X:Cx)(f:FH)(h:Heap)(va vi:Value)(kvs:List (Str × Value)),VR X f va y->VR X f vi (.str w)->St X f σ h->h.DictOf (strKind X.P X.w) (X.g 1) kvs->IntVals kvs D->
  ∃k,(strKind X.P X.w).is k vi=true∧∀h',h'.DictOf (strKind X.P X.w) (X.g 1) (stored kvs k va)->Heap.SameBut (X.g 1) h h'->Inv X σ₂ h'
theorem q0z{σ σ₂:Gs}{w:Wd}{D D':List (Str × Int)}{T:List Str}{k:Str}{n:Int}(hw:wden w=k)(hn:namesOf σ.md σ.nb=some (D,T))(e1:σ₂.ds=σ.ds)(e2:σ₂.e=σ.e)(hn':namesOf σ₂.md σ₂.nb=some (D',T))(hk:∀kvs u,IntVals kvs D->(∀p∈kvs,p.1≠k)∧IntVals (kvs++[(k,.int n u)]) D'):SetOKN σ w (.int n) σ₂:=⟨D,T,hn,λX f h va vi kvs hy hw' S hd hi=>by
 cases hw' using VR.eStr with
 |str t ho=>
 cases hy using VR.eInt with
 |int u=>
 have z:=hk kvs u hi
 exact⟨k,by rw[hw];show((k:Str)==k)=true;exact beq_self_eq_true _,setFin S hn e1 e2 hn' z.1 z.2⟩⟩
theorem n0e{w:Wd}{l:List Nat}{t:Str}(hl:wlit w=some l)(h:t.cps.toList=l):wden w=t:=b0k (by rw[a0i,a0x hl,h])
noncomputable def setNP(σ:Gs)(w:Wd)(y:V):Option {σ₂:Gs // SetOKN σ w y σ₂}:=onS (wlit w) λl hl=>match y with
 | .int n=>match σ with
  |⟨ds,e,false,0⟩=>onT (leq l [97,98]) λg1=>onT (ieq n 1) λg2=>some ⟨⟨ds,e,false,4⟩,by
   cases a0j g2
   refine q0z (n0e hl (t:="ab") (by rw[(b0r _ _).mp g1];kernel_rfl)) (D:=[("x",0)]) (T:=["x"]) (D':=[("x",0),("ab",1)]) rfl rfl rfl rfl λkvs u hi=> ?_
   cases hi with
   |cons _ _ t3 hi=>
   cases hi
   refine⟨λp hp=> ?_,.cons _ _ _ (.cons _ _ _ .nil)⟩
   cases List.mem_singleton.mp hp
   exact(by decide:("x":Str)≠"ab")⟩
  |⟨ds,e,b,2⟩=>onT (leq l [120]) λg1=>onT (ieq n 0) λg2=>some ⟨⟨ds,e,b,3⟩,by
   cases a0j g2
   refine q0z (n0e hl (t:="x") (by rw[(b0r _ _).mp g1];kernel_rfl)) (D:=[]) (T:=[]) (D':=[("x",0)]) rfl rfl rfl rfl λkvs u hi=> ?_
   cases hi
   exact⟨λp hp=>(nomatch hp),.cons _ _ _ .nil⟩⟩
  |_=>none
 |_=>none
theorem q0n{md:Nat}{nb:Bool}{D:List (Str × Int)}{T:List Str}(hn:namesOf md nb=some (D,T)):D.length≤2:=by
 unfold namesOf at hn
 split at hn<;>cases hn
 ·cases nb<;>decide
 ·decide
 ·decide
 ·decide
theorem IntVals.len:∀{a:List (Str × Value)}{b:List (Str × Int)},IntVals a b->a.length=b.length:=by
 intro a b q
 induction q with
 |nil=>rfl
 |cons _ _ _ _ ih=>exact congrArg Nat.succ ih
theorem j0o(C:Cz X env n₀){o i e:Expr}{p pos:Pos}{y:V}{w:Wd}{σ₁ σ₂ σ3 σ4:Gs}(R:Rel X env n₀ f s.heap st.vars st.ow m cm)(hc:notComp e=true)(HE:Tr X A (eval e env) f st.σ s y σ₁)
  (HO:∀f s,Rel X env n₀ f s.heap st.vars st.ow m cm->St X f σ₁ s.heap->Tr X A (eval o env) f σ₁ s (.gl 1) σ₂)(HI:∀f s,Rel X env n₀ f s.heap st.vars st.ow m cm->St X f σ₂ s.heap->Tr X A (eval i env) f σ₂ s (.str w) σ3)(hset:SetOKN σ3 w y σ4):
  TrS X A env n₀ (exec (.Assign [.Subscript o i p] e pos) env) f st s .next ⟨st.vars,st.ow,σ4⟩:=by
 intro Q E hQ
 refine wpAny_Assign_Subscript (HE _ _ λva f1 h1 t1 K1 S1 r1=> ?_) (a0r hc)
 have R1:=R.kp' K1
 refine HO f1 {s with heap:=h1,toks:=t1} R1 S1 _ _ λvo f2 h2 t2 K2 S2 r2=> ?_
 have R2:=R1.kp' K2
 refine HI f2 {s with heap:=h2,toks:=t2} R2 S2 _ _ λvi f3 h3 t3 K3 S3 r3=> ?_
 have R3:=R2.kp' K3
 cases r2 with
 |gl _ _=>
 obtain⟨D,T,hn,hset⟩:=hset
 obtain⟨ap,⟨kvs,d1,d2,d3⟩,_⟩:=S3.inv.names D T hn
 obtain⟨k,hk,hI⟩:=hset X f3 h3 va vi kvs (r1.mono (K2.le.trans K3.le)) r3 S3 d1 d3
 have hlen:kvs.length≤16777216:=by rw[d3.len];exact Nat.le_trans (q0n hn) (by decide)
 refine wpAny_setItem_pairs (s:={s with heap:=h3,toks:=t3}) hk d1 (λh4 hd4 hs4=> ?_) (by rw[line24];exact hlen)
 obtain⟨R4,S4⟩:=R3.g S3 ⟨1,by have:=ap.2.2.2;lia,rfl⟩ hs4 (hI h4 hd4 hs4)
 exact hQ _ f3 h4 _ m cm .next ((K1.le.trans K2.le).trans K3.le) S4 R4
theorem f0b{t e:Expr}{line:Nat}{env:Env}(h:notComp e=true):swapsWithSole [t] e line env=pure false:=by
 unfold swapsWithSole;exact a0r h
theorem y0b{e:Expr}{pos:Pos}{y:V}(R:Rel X env n₀ f s.heap st.vars st.ow m cm)(hc:notComp e=true)(hf:isFun env.scope=true)(HE:Tr X A (eval e env) f st.σ s y σ')(hy:plainV y=true):
  TrS X A env n₀ (exec (.Expr e pos) env) f st s .next ⟨st.vars,st.ow,σ'⟩:=by
 have hi:interactive env=false:=by
  unfold isFun at hf
  split at hf
  ·rename_i q;unfold interactive;rw[q];rfl
  ·cases hf
 intro Q E hQ
 refine wpAny_Expr (HE _ _ λv f1 h1 t1 K1 S1 r1=> ?_) hi (a0r hc)
 have:=n0j r1 hy
 have q:=hQ .next f1 h1 t1 m cm .next K1.le S1 (R.kp' K1)
 cases v with
 |ref a=>exact absurd rfl (this a)
 |_=>exact q
theorem f0k{e arg:Expr}{pos:Pos}{z:Str}{l:List V}{k:Nat}{y:V}(C:Cz X env n₀)(R:Rel X env n₀ f s.heap vars (some (z,.lst l k)) m cm)(S:St X f σ s.heap)(ha:ownAppend e (some (z,.lst l k))=some arg)
  (HE:∀s,Rel X env n₀ f s.heap vars (some (z,.lst l k)) m cm->St X f σ s.heap->Tr X A (eval arg env) f σ s y σ')(hk:Nat.ble k 16777000=true):
  TrS X A env n₀ (exec (.Expr e pos) env) f ⟨vars,some (z,.lst l k),σ⟩ s .next ⟨vars,some (z,.lst (l++[y]) (k+1)),σ'⟩:=by
 obtain⟨p,apos,cpos,rfl,hl,hp,ho⟩:=i0p ha
 have hf:interactive env=false:=by unfold interactive;rw[C.kind];rfl
 obtain⟨h1,h2⟩:=a0v ho
 obtain⟨v,hv,O⟩:=R.own _ _ rfl
 intro Q E hQ
 refine wpAny_Expr ?_ hf (a0r rfl)
 refine c0v (args:=[arg]) rfl (by show(match plainArg arg with|true=>allPlain []|false=>false)=true;rw[hp];rfl) hl rfl ?_
 refine wpAny_Name (b0o C R.fm hv h2 ?_) h1
 obtain⟨a,vs,j,rfl,g1,g2,g3,g4⟩:=id O
 refine getMethod_list_append g1 rfl rfl ?_
 refine a0l A E s cpos [.ref a] (treesOf [arg] env) _ rfl (a0n (λx hx=> ?_) ?_)
 ·obtain⟨e,_,rfl⟩:=List.mem_map.mp hx;rfl
 ·refine spliced_cons (HE s R S _ _ λw f1 hp1 t1 K1 S1 r1=>spliced_nil ⟨S1.kin,?_⟩)
  refine r0t (s:={s with heap:=hp1,toks:=t1}) C (R.kp' K1) S1 r1 hk hv λh' t' S' R'=> ?_
  exact hQ .next f1 h' t' m cm .next K1.le S' R'
theorem g0a(hA:A.handled=none)(C:Cz X env n₀){es:List Expr}{k:Nat}{p pos:Pos}{e:Expr}{y:V}(R:Rel X env n₀ f s.heap st.vars st.ow m cm)(hc:notComp e=true)(hsw:swappedStores [.Tuple es k p] e env=pure none)
  (HE:Tr X A (eval e env) f st.σ s y σ')(ha:asg env.scope (.Tuple es k p) y ⟨st.vars,st.ow,σ'⟩=some st'):TrS X A env n₀ (exec (.Assign [.Tuple es k p] e pos) env) f st s .next st':=by
 intro Q E hQ
 refine Assign_Tuple (HE _ _ λv f1 h1 t1 K1 S1 r1=> ?_) (f0b hc) hsw
 exact o0c (s:={s with heap:=h1,toks:=t1}) hA C ha r1 (R.kp' K1) S1 _ _ λh2 t2 m2 cm2 S2 R2=>hQ _ f1 h2 t2 m2 cm2 .next K1.le S2 R2
theorem VRs.reverse{vs:List Value}{l:List V}(h:VRs X f vs l):VRs X f vs.reverse l.reverse:=
 h.ind (motive:=λvs l=>VRs X f vs.reverse l.reverse) .nil λa x0 ih=>by rw[List.reverse_cons,List.reverse_cons];exact ih.append (.one a)
theorem g0x(hA:A.handled=none)(C:Cz X env n₀){es:List Expr}{k:Nat}{p pos:Pos}{e:Expr}{y:V}{names:List Str}(R:Rel X env n₀ f s.heap st.vars st.ow m cm)(hc:notComp e=true)(hsw:swappedStores [.Tuple es k p] e env=pure (some names))
  (HE:Tr X A (eval e env) f st.σ s y σ'){ys:List V}(hy:∀(X:Cx)(f:FH)(v:Value),VR X f v y->VR X f v (.tup ys))(hn:Nat.beq names.length ys.length=true)(ha:asgs env.scope names.reverse ys.reverse ⟨st.vars,st.ow,σ'⟩=some st'):TrS X A env n₀ (exec (.Assign [.Tuple es k p] e pos) env) f st s .next st':=by
 intro Q E hQ
 refine Assign_Tuple_swapped (names:=names) (HE _ _ λv f1 h1 t1 K1 S1 r1=> ?_) (f0b hc) hsw
 have r1:=hy _ _ _ r1
 cases r1 using VR.eTup with
 | @tup a vs fv rv=>
 have hl:names.length=vs.toArray.size:=by rw[List.size_toArray,rv.length];exact Nat.eq_of_beq_eq_true hn
 rw[hl]
 refine unpackItems_tuple hA (S1.tup fv) λh2 he=> ?_
 obtain⟨R2,S2⟩:=(R.kp' K1).turn C S1 (I:=h1.objs.size) (.inl ⟨dead _,f0o S1⟩) he (B2:=n₀) rfl rfl λp hp=>.inl ⟨hp,λq=>by
  have:=((R.kp' K1).pin p hp).1;rw[q,dead] at this;cases this⟩
 refine o0r (s:={s with heap:=h2,toks:=t1}) (env:=env) C (names.reverse.map λx=>bindName env x) (by simp) (λi t x h1 h2 v Q E s h=> ?_) ha (rv.reverse) R2 S2 _ _ λh3 t3 m3 cm3 S3 R3=>hQ _ f1 h3 t3 m3 cm3 .next K1.le S3 R3
 rw[List.getElem?_map,h2] at h1
 cases h1
 exact h
theorem h0t(EK:EcOK X K.toEc)(C:Cz X env n₀){z a:Str}{D:Addr}{fs:List (Str × V)}{e:Expr}{p q pos:Pos}{y:V}(R:Rel X env n₀ f s.heap vars (some (z,.ins D fs)) m cm)(ho:okName z=true)
  (hk:setOk K.toEc D a=true)(hl:Nat.ble fs.length 900=true)(hc:notComp e=true)(HE:Tr X A (eval e env) f σ s y σ'):
  TrS X A env n₀ (exec (.Assign [.Attribute (.Name z p) a q] e pos) env) f ⟨vars,some (z,.ins D fs),σ⟩ s .next ⟨vars,some (z,.ins D (putF a y fs)),σ'⟩:=by
 obtain⟨h1,h2⟩:=a0v ho
 obtain⟨v,hv,O⟩:=R.own _ _ rfl
 intro Q E hQ
 refine plainObj_wpAny_Assign_Attribute (HE _ _ λw f1 hp1 t1 K1 S1 r1=> ?_) (a0r hc)
 have R1:=R.kp' K1
 refine wpAny_Name (b0o (s:={s with heap:=hp1,toks:=t1}) C R1.fm hv h2 ?_) h1
 exact d0f (s:={s with heap:=hp1,toks:=t1}) EK C R1 S1 hk hl r1 hv λh3 t3 S3 R3=>hQ _ f1 h3 t3 m cm .next K1.le S3 R3
theorem b1t(C:Cz X env n₀){x:Str}{p pos:Pos}{op:Operator}{e:Expr}{old y z:V}(R:Rel X env n₀ f s.heap st.vars st.ow m cm)(S:St X f st.σ s.heap)(ho:okName x=true)(hx:look x st.vars=some old)
  (HE:Tr X A (eval e env) f st.σ s y σ')(hz:iopV op old y=some z)(ha:asgN env.scope x z ⟨st.vars,st.ow,σ'⟩=some st'):TrS X A env n₀ (exec (.AugAssign (.Name x p) op e pos) env) f st s .next st':=by
 obtain⟨h1,h2⟩:=a0v ho
 obtain⟨v,hv,r⟩:=R.vars _ _ hx
 intro Q E hQ
 refine wpAny_AugAssign_Name (b0o C R.fm hv h2 (HE _ _ λw f1 hp1 t1 K1 S1 r1=> ?_))
 refine c1z (s:={s with heap:=hp1,toks:=t1}) S1 (r.mono K1.le) r1 hz _ _ λu f2 hp2 t2 K2 S2 r2=> ?_
 obtain⟨g1,g2,g3,rfl⟩:=c0t ha
 exact c0w (s:={s with heap:=hp2,toks:=t2}) C ((R.kp' K1).kp' K2) S2 r2 g2 g3 λhp3 t3 m3 cm3 S3 R3 x0=>hQ _ f2 hp3 t3 m3 cm3 .next (K1.le.trans K2.le) S3 R3
theorem g0e(C:Cz X env n₀){x:Str}{p p2 pos:Pos}{es:List Expr}{xs:List V}(R:Rel X env n₀ f s.heap st.vars st.ow m cm)(S:St X f st.σ s.heap)(hp:allPlain es=true)(hb:Nat.ble es.length 1000=true)
  (HE:∀f s,Rel X env n₀ f s.heap (frz st).vars (frz st).ow m cm->St X f st.σ s.heap->TrL X A (spliced (treesOf es env)) f st.σ s xs σ')(hl:xs.length=es.length)(ha:asgN env.scope x .any ⟨(frz st).vars,none,σ'⟩=some st'):
  TrS X A env n₀ (exec (.Assign [.Name x p] (.List es p2) pos) env) f st s .next ⟨st'.vars,some (x,.lst xs xs.length),σ'⟩:=by
 obtain⟨f1,le1,S1,R1⟩:=x0b R S
 have hσ:(frz st).σ=st.σ:=by unfold frz;split<;>rfl
 rw[hσ] at S1
 intro Q E hQ
 refine wpAny_Assign_Name ?_ (a0r rfl)
 refine List_ ?_
 rw[a0k hp]
 refine HE f1 s R1 S1 _ _ λvs f2 h2 t2 K2 S2 r2=> ?_
 have R2:=(R1.kp' K2).noOwn
 refine wpAny_newList ?_ (by have:=r2.length;have:=Nat.le_of_ble_eq_true hb;rw[line24];lia)
 obtain⟨R3,S3⟩:=R2.pinNew C S2 (o:={cls:=.type "list",data:=.seq vs.toArray}) rfl
 obtain⟨g1,g2,g3,rfl⟩:=c0t ha
 refine c0w (s:={s with heap:=h2.push {cls:=.type "list",data:=.seq vs.toArray},toks:=t2}) (C.pins _) R3 S3 (y:=.any) (.any _) g2 g3 λh4 t4 m4 cm4 S4 R4 hv=> ?_
 have hni:∀p∈n₀.pins,p.1≠h2.objs.size:=λp hp q=>by have:=(R2.pin p hp).1;rw[q,dead] at this;cases this
 obtain⟨O,lO⟩:=R4.ownOf (n₀:=n₀) (λp hp=>.tail _ hp) (.head _) hni
 have R5:=R4.unpin (n₀:=n₀) λp hp=>.tail _ hp
 refine hQ _ f2 h4 t4 m4 cm4 .next (le1.trans K2.le) S4 ⟨R5.kp,R5.me,R5.pin,R5.fm,R5.vars,λx' o e=> ?_⟩
 cases e
 exact⟨_,hv,_,vs,_,rfl,lO,r2,Nat.le_refl _,O⟩
theorem u0z{t:Expr}{body:List Stmt}{pos:Pos}(R:Rel X env n₀ f s.heap st.vars st.ow m cm)(HT:TrG X A (isTrue t env (eval t env)) f st.σ s (λx0 c=>V.bool false= .bool c) σ'):
  TrS X A env n₀ (exec (.While t body [] pos) env) f st s .next ⟨st.vars,st.ow,σ'⟩:=by
 intro Q E hQ
 refine wpAny_While (codeAny_whileLoop (λx0 s'=>s'=s) ?_ 0 rfl)
 rintro j s' rfl
 refine HT _ _ λc f1 h1 t1 K1 S1 r1=> ?_
 cases r1
 rw[if_neg (by decide)]
 exact wpAny_execs_nil (hQ _ f1 h1 t1 m cm .next K1.le S1 (R.kp' K1))
end
section
variable {X:Cx} {A:Around} {K:Kx} {n:Nat} {env:Env} {n₀:Bs} {vars:Vars} {m cm:Str->Option Value} {f f':FH} {s:Shared} {st st':Sx} {fl:Fl} {h h':Heap} {σ σ':Gs} {W:List Str}
theorem h0i(EK:KxOK X n K)(hA:Room X A n)(C:Cz X env n₀){k:Nat}{x:Str}{p pos:Pos}{e:Expr}{y:V}(R:Rel X env n₀ f s.heap vars none m cm)(S:St X f σ s.heap)
  (hsw:swapsWith e (some (.Name x p)) pos.line env=pure true)(he:ev K k env.scope vars false e σ=some (y,σ'))(ha:asgN env.scope x y ⟨vars,none,σ'⟩=some st'):
  TrS X A env n₀ (exec (.Assign [.Name x p] e pos) env) f ⟨vars,none,σ⟩ s .next st':=by
 cases k with
 |zero=>exact nomatch he
 |succ k=>
 cases e with
 |ListComp elt gens scope cpos=>
  obtain⟨hlp,z,px,iter,it,σ₁,r,xs,ys,I⟩:=t0j (X:=X) (A:=A) (λenv n₀ vars ow m cm C=>b0q EK hA k env n₀ vars ow m cm C) he
  cases I.gens
  intro Q E hQ
  rw[exec_Assign_Name_used _ _ _ _ hsw]
  refine wpAny_bind (wpAny_standAt (wpAny_bind ?_))
  show wpAny X.M A (do let _ ←comprehension (.ListComp elt [⟨.Name z px,iter,[],0⟩] scope cpos) scope env (firstIterPos [⟨.Name z px,iter,[],0⟩] cpos) (newList []) (firstAsync [⟨.Name z px,iter,[],0⟩]) (firstIter [⟨.Name z px,iter,[],0⟩] env) (some (assign (.Name x p) env))) _ _ s
  refine wpAny_bind (wpAny_mono (p0u (use:=some (assign (.Name x p) env)) (Q:=λx0 s'=>Q .next s') (hA.1 (EK.lp hlp)) C R I.F (I.E _) ((b0q EK hA k env n₀ vars none m cm C).1 iter σ _ _ f s I.h1 R S) I.hx I.h2 I.len (λv=>c0q I.hset)
   λD L f' h' t' m' ex K' S' hv dL gL fL hn=> ?_) (λx0 s' hq=>wpAny_pure (wpAny_pure hq)) λx0 x0 e=>e)
  obtain⟨oL,es,ep,lL,hns⟩:=hn
  have R1:=R.pinAt K' dL gL fL lL
  refine wpAny_bind (wpAny_standAt (h0r (s:={s with heap:=h',toks:=t'}) (C.pins _) ha (I.res _ _ ex hv) R1 S' _ _ λh4 t4 m4 cm4 S4 R4=> ?_))
  have lL4:=(R4.pin _ (.head _)).1
  refine⟨m',⟨oL,es,ep,lL4,hns⟩,λh5 hs=> ?_⟩
  obtain⟨R5,S5⟩:=R4.turn (C.pins _) S4 (I:=L) (.inr ⟨_,.head _,rfl⟩) hs.extBut (B2:=n₀) rfl rfl λp hp=>.inl ⟨.tail _ hp,λq=>by
   have:=(R.pin p hp).1;rw[q,dL] at this;cases this⟩
  exact hQ _ f' h5 t4 m4 cm4 .next K'.le S5 R5
 |SetComp=>change none=_ at he;cases he
 |DictComp=>change none=_ at he;cases he
 |_=>have:=(a0r (t:=some (.Name x p)) (line:=pos.line) (env:=env) rfl).symm.trans hsw;cases this
end
structure StC(K:Kx)(r:RcS)(sc:Scope)(X:Cx)(A:Around)(n:Nat)(env:Env)(n₀:Bs):Prop where
 EK:KxOK X n K
 hA:Room X A n
 C:Cz X env n₀
 hs:sc=env.scope
 HB:∀n₀,Cz X env n₀->SndS X A env n₀ r
section
variable {K:Kx} {r:RcS} {sc:Scope} {X:Cx} {A:Around} {n:Nat} {env:Env} {n₀:Bs} {vars:Vars} {ow:Option (Str × Ow)} {m cm:Str->Option Value} {k:Nat}
theorem StC.E(H:StC K r sc X A n env n₀):SndE X A env n₀ vars ow m cm (ev K k sc vars false):=by rw[H.hs];exact(b0q H.EK H.hA k env n₀ vars ow m cm H.C).1
theorem StC.T(H:StC K r sc X A n env n₀):SndT X A env n₀ vars ow m cm (ev K k sc vars true):=by rw[H.hs];exact(b0q H.EK H.hA k env n₀ vars ow m cm H.C).2
theorem StC.B(H:StC K r sc X A n env n₀){body:List Stmt}{n₀:Bs}{st:Sx}{fl:Fl}{st':Sx}{f:FH}{s:Shared}{m cm:Str->Option Value}(C:Cz X env n₀)(h:evSs r body st=some (fl,st'))(R:Rel X env n₀ f s.heap st.vars st.ow m cm)(S:St X f st.σ s.heap):TrS X A env n₀ (execs body env) f st s fl st':=
 c0a C (H.HB n₀ C) body st fl st' f s m cm h R S
end
noncomputable def StOK(K:Kx)(r:RcS)(sc:Scope)(t:Stmt)(st:Sx)(p:Fl × Sx):Prop:=∀(X:Cx)(A:Around)(n:Nat)(env:Env)(n₀:Bs)(m cm:Str->Option Value)(f:FH)(s:Shared),StC K r sc X A n env n₀->Rel X env n₀ f s.heap st.vars st.ow m cm->St X f st.σ s.heap->TrS X A env n₀ (exec t env) f st s p.1 p.2
noncomputable abbrev StR(K:Kx)(r:RcS)(sc:Scope)(t:Stmt)(st:Sx):=Option {p:Fl × Sx // StOK K r sc t st p}
section
variable {K:Kx} {r:RcS} {sc:Scope} {W:List Str} {n:Nat}
theorem frz_σ(st:Sx):(frz st).σ=st.σ:=by unfold frz;split<;>rfl
theorem e1c(st:Sx):(frz st).ow=none:=by unfold frz;split<;>first|rfl|assumption
noncomputable def anP(K:Kx)(r:RcS)(W:List Str)(sc:Scope)(n:Nat)(x:Str)(p:Pos)(e:Expr)(pos:Pos)(st:Sx):StR K r sc (.Assign [.Name x p] e pos) st:=onF (memS x W) (λx0=>match e with
 | .List es p2=>onT (allPlain es) λhp=>onT (Nat.ble es.length 1000) λhb=>onP (evsP (ev K n sc (frz st).vars false) es st.σ) λq h=>onS (asgN sc x .any ⟨(frz st).vars,none,q.2⟩) λst₁ ha=>some ⟨(.next,⟨st₁.vars,some (x,.lst q.1 q.1.length),q.2⟩),λX A n' env n₀ m cm f s H R S=>
  g0e H.C R S hp hb (λf s R' S'=>h.2 _ _ _ _ _ _ _ _ H.E f s R' S') h.1 (by rw[←H.hs];exact ha)⟩
 |_=>none)
 λx0=>onS (pureOf (swapsWith e (some (.Name x p)) pos.line (dum sc))) λb hsw=>onR (ev K n sc st.vars false e st.σ) λy σ' h1=>match b,hsw with
  |false,hsw=>onS (asgN sc x y ⟨st.vars,st.ow,σ'⟩) λst' ha=>some ⟨(.next,st'),λX A n' env n₀ m cm f s H R S=>by
   have hs:=H.hs;subst hs
   obtain⟨g1,g2,g3,rfl⟩:=c0t ha
   exact b0l H.C R S ((b0n e (some (.Name x p)) pos.line env).trans (a0z hsw)) g2 g3 (H.E e st.σ y σ' f s h1 R S)⟩
  |true,hsw=>match st,h1 with
   |⟨vars,none,σ⟩,h1=>onS (asgN sc x y ⟨vars,none,σ'⟩) λst' ha=>some ⟨(.next,st'),λX A n' env n₀ m cm f s H R S=>by
    have hs:=H.hs;subst hs
    exact h0i H.EK H.hA H.C R S ((b0n e (some (.Name x p)) pos.line env).trans (a0z hsw)) h1 ha⟩
   |_,_=>none
noncomputable def atP(K:Kx)(r:RcS)(sc:Scope)(n:Nat)(es:List Expr)(kk:Nat)(p:Pos)(e:Expr)(pos:Pos)(st:Sx):StR K r sc (.Assign [.Tuple es kk p] e pos) st:=onT K.lp λhlp=>onT (notComp e) λhc=>onS (pureOf (swappedStores [.Tuple es kk p] e (dum sc))) λb hsw=>onR (ev K n sc st.vars false e st.σ) λy σ' h1=>match b,hsw with
 |none,hsw=>onS (asg sc (.Tuple es kk p) y ⟨st.vars,st.ow,σ'⟩) λst' ha=>some ⟨(.next,st'),λX A n' env n₀ m cm f s H R S=>by
  have hs:=H.hs;subst hs
  exact g0a (H.hA.1 (H.EK.lp hlp)) H.C R hc ((d0e _ e env).trans (a0z hsw)) (H.E e st.σ y σ' f s h1 R S) ha⟩
 |some names,hsw=>onP (unpVP y) λys hy=>onT (Nat.beq names.length ys.length) λhn=>onS (asgs sc names.reverse ys.reverse ⟨st.vars,st.ow,σ'⟩) λst' ha=>some ⟨(.next,st'),λX A n' env n₀ m cm f s H R S=>by
  have hs:=H.hs;subst hs
  exact g0x (H.hA.1 (H.EK.lp hlp)) H.C R hc ((d0e _ e env).trans (a0z hsw)) (H.E e st.σ y σ' f s h1 R S) hy hn ha⟩
noncomputable def aaP(K:Kx)(r:RcS)(sc:Scope)(n:Nat)(x:Str)(p:Pos)(a:Str)(q:Pos)(e:Expr)(pos:Pos)(st:Sx):StR K r sc (.Assign [.Attribute (.Name x p) a q] e pos) st:=match st with
 |⟨vars,some (z,.ins D fs),σ⟩=>onT (seq x z) λh1=>onT (okName x) λh2=>onT (setOk K.toEc D a) λh3=>onT (Nat.ble fs.length 900) λh4=>onT (notComp e) λh5=>onR (ev K n sc vars false e σ) λy σ' h6=>some ⟨(.next,⟨vars,some (z,.ins D (putF a y fs)),σ'⟩),λX A n' env n₀ m cm f s H R S=>by
  cases(a0h _ _).mp h1
  exact h0t H.EK.toEcOK H.C R h2 h3 h4 h5 (H.E e σ y σ' f s h6 R S)⟩
 |_=>none
noncomputable def asP(K:Kx)(r:RcS)(sc:Scope)(n:Nat)(o i:Expr)(p:Pos)(e:Expr)(pos:Pos)(st:Sx):StR K r sc (.Assign [.Subscript o i p] e pos) st:=onT (notComp e) λhc=>onT (notSlice i) λx0=>onR (ev K n sc st.vars false e st.σ) λy σ₁ h1=>onR (ev K n sc st.vars false o σ₁) λx σ₂ h2=>match x,h2 with
 | .gl 1,h2=>onR (ev K n sc st.vars false i σ₂) λw σ3 h3=>match w,h3 with
  | .str w,h3=>onP (setNP σ3 w y) λσ4 h4=>some ⟨(.next,⟨st.vars,st.ow,σ4⟩),λX A n' env n₀ m cm f s H R S=>j0o H.C R hc (H.E e st.σ y σ₁ f s h1 R S) (λf s R S=>H.E o σ₁ _ σ₂ f s h2 R S) (λf s R S=>H.E i σ₂ _ σ3 f s h3 R S) h4⟩
  |_,_=>none
 |_,_=>none
noncomputable abbrev AaF(a:Str)(q:Pos)(o:Expr):=∀(K:Kx)(r:RcS)(W:List Str)(sc:Scope)(n:Nat)(e:Expr)(pos:Pos)(st:Sx),StR K r sc (.Assign [.Attribute o a q] e pos) st
noncomputable def aaF(o:Expr)(a:Str)(q:Pos):AaF a q o:=@ekD (AaF a q) (λ_ _ _ _ _ _ _ _ _=>none) (λx p K r _ sc n e pos st=>aaP K r sc n x p a q e pos st) (λ_ _ _ _ _ _ _ _ _ _ _=>none) (λ_ _ _ _ _ _ _ _ _ _ _=>none) (λ_ _ _ _ _ _ _ _ _ _ _=>none) o
noncomputable abbrev AgF(t:Expr):=∀(K:Kx)(r:RcS)(W:List Str)(sc:Scope)(n:Nat)(e:Expr)(pos:Pos)(st:Sx),StR K r sc (.Assign [t] e pos) st
noncomputable def agP(t:Expr):AgF t:=@ekD AgF (λ_ _ _ _ _ _ _ _ _=>none) (λx p K r W sc n e pos st=>anP K r W sc n x p e pos st) (λes kk p K r W sc n e pos st=>atP K r sc n es kk p e pos st) aaF (λo i p K r W sc n e pos st=>asP K r sc n o i p e pos st) t
noncomputable def reP(K:Kx)(r:RcS)(sc:Scope)(n:Nat)(v:Option Expr)(p:Pos)(st:Sx):StR K r sc (.Return v p) st:=match v with
 |none=>some ⟨(.ret .none,st),λX A n' env n₀ m cm f s H R S Q E hQ=>wpAny_Return_none (hQ _ f s.heap s.toks m cm (.ret .none) (FH.le.refl f) S R)⟩
 |some e=>onR (ev K n sc (frz st).vars false e st.σ) λy σ' h1=>some ⟨(.ret y,⟨(frz st).vars,none,σ'⟩),λX A n' env n₀ m cm f s H R S=>by
  obtain⟨f1,le1,S1,R1⟩:=x0b R S
  rw[frz_σ] at S1
  rw[e1c] at R1
  exact λQ E hQ=>wpAny_Return_some (H.E e st.σ y σ' f1 s h1 R1 S1 _ _ λv f2 h2 t2 K2 S2 r2=>hQ _ f2 h2 t2 m cm (.ret r2) (le1.trans K2.le) S2 (R1.kp' K2))⟩
noncomputable def ifSP(K:Kx)(r:RcS)(sc:Scope)(n:Nat)(t:Expr)(a b:List Stmt)(p:Pos)(st:Sx):StR K r sc (.If t a b p) st:=onB (ev K n sc st.vars true t st.σ) λc σ' h1=>match c,h1 with
 |true,h1=>onE (evSs r a ⟨st.vars,st.ow,σ'⟩) (λq h=>some ⟨q,λX A n' env n₀ m cm f s H R S=>f0e H.C R (H.T t st.σ _ σ' f s h1 R S) λf1 s1 R1 S1=>H.B H.C h R1 S1⟩) λx0=>none
 |false,h1=>onE (evSs r b ⟨st.vars,st.ow,σ'⟩) (λq h=>some ⟨q,λX A n' env n₀ m cm f s H R S=>f0e H.C R (H.T t st.σ _ σ' f s h1 R S) λf1 s1 R1 S1=>H.B H.C h R1 S1⟩) λx0=>none
noncomputable def exP(K:Kx)(r:RcS)(sc:Scope)(n:Nat)(e:Expr)(p:Pos)(st:Sx):StR K r sc (.Expr e p) st:=onE (ownAppend e st.ow) (λarg ha=>match st,ha with
  |⟨vars,some (z,.lst l k),σ⟩,ha=>onR (ev K n sc vars false arg σ) λy σ' h1=>onT (Nat.ble k 16777000) λhb=>some ⟨(.next,⟨vars,some (z,.lst (l++[y]) (k+1)),σ'⟩),λX A n' env n₀ m cm f s H R S=>f0k H.C R S ha (λs R S=>H.E arg σ y σ' f s h1 R S) hb⟩
  |_,_=>none)
 λx0=>onT (notComp e) λh1=>onT (isFun sc) λh2=>onR (ev K n sc st.vars false e st.σ) λy σ' h3=>onT (plainV y) λhp=>some ⟨(.next,⟨st.vars,st.ow,σ'⟩),λX A n' env n₀ m cm f s H R S=>y0b R h1 (by rw[←H.hs];exact h2) (H.E e st.σ y σ' f s h3 R S) hp⟩
noncomputable def auP(K:Kx)(r:RcS)(sc:Scope)(n:Nat)(t:Expr)(op:Operator)(e:Expr)(p:Pos)(st:Sx):StR K r sc (.AugAssign t op e p) st:=match t with
 | .Name x px=>onT (okName x) λh1=>onS (look x st.vars) λold h2=>onR (ev K n sc st.vars false e st.σ) λy σ' h3=>onS (iopV op old y) λz hz=>onS (asgN sc x z ⟨st.vars,st.ow,σ'⟩) λst' ha=>some ⟨(.next,st'),λX A n' env n₀ m cm f s H R S=>b1t H.C R S h1 h2 (H.E e st.σ y σ' f s h3 R S) hz (by rw[←H.hs];exact ha)⟩
 |_=>none
noncomputable def foP(K:Kx)(r:RcS)(sc:Scope)(n:Nat)(t it:Expr)(body orelse:List Stmt)(p:Pos)(st:Sx):StR K r sc (.For t it body orelse p) st:=onT K.lp λhlp=>match t,orelse with
 | .Name x px,[]=>onT (notSet it) λh1=>onR (ev K n sc st.vars false it st.σ) λy σ' h2=>onS (seqV y) λxs hx=>onS (evFor (asgN sc x) (evSs r body) xs ⟨st.vars,st.ow,σ'⟩) λq h=>some ⟨q,λX A n' env n₀ m cm f s H R S=>by
  have hs:=H.hs;subst hs
  exact d1m (H.hA.1 (H.EK.lp hlp)) H.C R S (H.E it st.σ y σ' f s h2 R S) hx h1 (λst fl st' h n₀ f s m cm C R S=>H.B C h R S) h⟩
 |_,_=>none
noncomputable def whP(K:Kx)(r:RcS)(sc:Scope)(n:Nat)(t:Expr)(body orelse:List Stmt)(p:Pos)(st:Sx):StR K r sc (.While t body orelse p) st:=match orelse with
 |[]=>onB (ev K n sc st.vars true t st.σ) λc σ' h1=>match c,h1 with
  |false,h1=>some ⟨(.next,⟨st.vars,st.ow,σ'⟩),λX A n' env n₀ m cm f s H R S=>u0z R (H.T t st.σ _ σ' f s h1 R S)⟩
  |true,_=>none
 |_=>none
end
noncomputable abbrev StF(t:Stmt)(_:SK t):=∀(K:Kx)(W:List Str)(sc:Scope)(n:Nat)(r:RcS)(st:Sx),StR K r sc t st
noncomputable def agsP(ts:List Expr)(e:Expr)(pos:Pos)(K:Kx)(W:List Str)(sc:Scope)(n:Nat)(r:RcS)(st:Sx):StR K r sc (.Assign ts e pos) st:=match ts with
 |[t]=>agP t K r W sc n e pos st
 |_=>none
noncomputable def evStP(K:Kx)(W:List Str)(sc:Scope)(n:Nat)(r:RcS)(t:Stmt)(st:Sx):StR K r sc t st:=@SK.rec StF (λ_ K W sc n r st=>some ⟨(.next,st),λX A n' env n₀ m cm f s H R S Q E hQ=>wpAny_Pass (hQ _ f s.heap s.toks m cm .next (FH.le.refl f) S R)⟩)
 (λ_ K W sc n r st=>some ⟨(.brk,st),λX A n' env n₀ m cm f s H R S Q E hQ=>wpAny_Break (hQ _ f s.heap s.toks m cm .brk (FH.le.refl f) S R)⟩) (λv p K W sc n r st=>reP K r sc n v p st) (λt a b p K W sc n r st=>ifSP K r sc n t a b p st) (λe p K W sc n r st=>exP K r sc n e p st) agsP (λt op e p K W sc n r st=>auP K r sc n t op e p st)
 (λt it body orelse p K W sc n r st=>foP K r sc n t it body orelse p st) (λt body orelse p K W sc n r st=>whP K r sc n t body orelse p st) (λ_ _ _ _ _ _ _=>none) t (vwS t) K W sc n r st
noncomputable def evS(K:Kx)(W:List Str)(sc:Scope)(n:Nat):RcS:=@Nat.rec (λ_=>RcS) (λ_ _=>none) (λn ih s st=>valO (evStP K W sc n ih s st)) n
theorem c0m{X:Cx}{A:Around}{K:Kx}{n:Nat}{W:List Str}(EK:KxOK X n K)(hA:Room X A n)(k:Nat)(env:Env)(n₀:Bs)(C:Cz X env n₀):SndS X A env n₀ (evS K W env.scope k):=by
 induction k generalizing n₀ with
 |zero=>exact λx0 x0 x0 x0 x0 x0 x0 x0 h=>(nomatch h)
 |succ k ih=>exact λe st fl st' f s m cm h R S=>a0t (o:=evStP K W env.scope k (evS K W env.scope k) e st) (z:=(fl,st')) h X A n env n₀ m cm f s ⟨EK,hA,C,rfl,ih⟩ R S
structure FnD where
 names:List Str
 dv:List Value
 sc:Scope
 body:List Stmt
noncomputable def bindF(K:Frag)(S:Setting)(a:Addr)(vs:List Value):Option (List (Str × Value)):=match K.lookup a with
 |some o=>match o.data with
  | .func fd=>peek K S (bindArgs fd ⟨vs,[]⟩)
  |_=>none
 |none=>none
theorem v0o{K:Frag}{S:Setting}{a:Addr}{vs:List Value}{o:Obj}{fd:FuncData}(h:K.lookup a=some o)(hd:o.data= .func fd):bindF K S a vs=peek K S (bindArgs fd ⟨vs,[]⟩):=by
 unfold bindF
 rw[h]
 show(match o.data with| .func fd=>peek K S (bindArgs fd ⟨vs,[]⟩)|_=>none)=_
 rw[hd]
noncomputable def dvFrom(D:FnD)(n:Nat):List Value:=D.dv.drop (n+D.dv.length - D.names.length)
structure Fn0(K:Frag)(a:Addr)(sc:Scope)(body:List Stmt):Prop where
 ex:∃o fd,K.lookup a=some o∧o.data= .func fd∧fd.body= .stmts body∧fd.scope=sc∧fd.globals=mainGlobals∧fd.closure=[]∧fd.builtins=builtinsNs∧codeIn K fd.code fd.qualname=true
 keep:keepIn K (.ref a)=true
structure FnIs(K:Frag)(a:Addr)(D:FnD):Prop extends Fn0 K a D.sc D.body where
 bind:∀(S:Setting)(vs:List Value),vs.length≤D.names.length->D.names.length≤vs.length+D.dv.length->bindF K S a vs=some (D.names.zip (vs++dvFrom D vs.length))
noncomputable def cellNames:List (Str × NameKind)->List Str
 |[]=>[]
 |(x,k)::r=>if k== .cell then x::cellNames r else cellNames r
structure ScOk(D:FnD):Prop where
 nodup:D.names.Nodup
 kinds:∀x∈D.names,D.sc.names.lookup x=some .local∨D.sc.names.lookup x=some .cell
 free:∀p∈D.sc.names,p.2≠.free
 cells:(cellNames D.sc.names).Nodup
 fun_:D.sc.kind= .function
 co:D.sc.isCoroutine=false
 gen:D.sc.isGenerator=false
noncomputable def isFree:NameKind->Bool
 | .free=>true
 |_=>false
noncomputable def kindP(l:List (Str × NameKind))(x:Str):Ok (l.lookup x=some .local∨l.lookup x=some .cell):=onS (look x l) λk e=>match k,e with
 | .local,e=>okY (.inl ((c0f ..).symm.trans e))
 | .cell,e=>okY (.inr ((c0f ..).symm.trans e))
 |_,_=>none
noncomputable def funP:(k:ScopeKind)->Ok (k= .function)
 | .function=>okY rfl
 |_=>none
noncomputable def scP(D:FnD):Ok (ScOk D):=onT (nodupS D.names) λh1=>onP (allK (kindP D.sc.names) D.names) λx0 h2=>onP (allK (λp:Str × NameKind=>onF (isFree p.2) (λx0=>none) λh=>okY λe=>Bool.noConfusion ((congrArg isFree e).symm.trans h)) D.sc.names) λx0 h3=>onT (nodupS (cellNames D.sc.names)) λh4=>onP (funP D.sc.kind) λx0 h5=>
 onF D.sc.isCoroutine (λx0=>none) λh6=>onF D.sc.isGenerator (λx0=>none) λh7=>okY ⟨d0z h1,h2,h3,d0z h4,h5,h6,h7⟩
noncomputable def scOk(D:FnD):Bool:=okO (scP D)
theorem x0k{D:FnD}(h:scOk D=true):ScOk D:=c0c h
theorem c0h:∀(names:List (Str × NameKind))(n:Nat)(acc:List (Str × Addr)),(cellsFrom n names acc).map (·.1)=(cellNames names).reverse++acc.map (·.1)
 |[],_,_=>rfl
 |(x,k)::r,n,acc=>by
  unfold cellsFrom cellNames
  by_cases h:(k==NameKind.cell)=true
  ·rw[if_pos h,if_pos h,c0h r,List.reverse_cons,List.append_assoc];rfl
  ·rw[if_neg h,if_neg h,c0h r]
theorem q0r{α:Type}{n:Str}{c:α}{l:List (Str × α)}:((n,c)::l).lookup n=some c:=by rw[List.lookup_cons,beq_self_eq_true]
theorem q0e{α:Type}{n m:Str}{c:α}{l:List (Str × α)}(h:n≠m):((m,c)::l).lookup n=l.lookup n:=by rw[List.lookup_cons,beq_eq_false_iff_ne.mpr h]
theorem b1k{α:Type}{n m:Str}{c d:α}{l:List (Str × α)}(h:(((m,d)::l).map (·.1)).Nodup)(hm:(n,c)∈l):n≠m:=λq=>(List.nodup_cons.mp h).1 (q▸List.mem_map.mpr ⟨_,hm,rfl⟩)
theorem h0u{α:Type}{n:Str}{c:α}{l:List (Str × α)}(hd:(l.map (·.1)).Nodup)(hm:(n,c)∈l):l.lookup n=some c:=by
 induction l with
 |nil=>cases hm
 |cons p l ih=>exact(List.mem_cons.mp hm).elim (λe=>e▸q0r) λhm=>(q0e (b1k hd hm)).trans (ih (List.nodup_cons.mp hd).2 hm)
theorem g0u{k:Str->Option NameKind}{x:Str}{l:List (Str × Value)}:∀{m:Str->Option Value},x ∉ l.map (·.1)->bindL k l m x=m x∧bindC k l m x=m x:=by
 induction l with
 |nil=>exact λx0=>⟨rfl,rfl⟩
 |cons p l ih=>
  intro m h
  have h1:x≠p.1:=λq=>h (q▸.head _)
  have h2:x ∉ l.map (·.1):=λq=>h (.tail _ q)
  by_cases hk:k p.1=some .local
  ·exact⟨ih h2 |>.1.trans (by rw[if_pos hk];exact if_neg h1),ih h2 |>.2.trans (by rw[if_pos hk])⟩
  ·exact⟨ih h2 |>.1.trans (by rw[if_neg hk]),ih h2 |>.2.trans (by rw[if_neg hk];exact if_neg h1)⟩
theorem a1q{k:Str->Option NameKind}{x:Str}{v:Value}{l:List (Str × Value)}:∀{m:Str->Option Value},(l.map (·.1)).Nodup->(x,v)∈l->(k x=some .local->bindL k l m x=some v)∧(k x=some .cell->bindC k l m x=some v):=by
 induction l with
 |nil=>exact λx0 h=>nomatch h
 |cons p l ih=>
  intro m hd hm
  have h1:=List.nodup_cons.mp hd
  rcases List.mem_cons.mp hm with e|hm
  ·subst e
   exact⟨λhk=>(g0u h1.1).1.trans (by rw[if_pos hk];exact if_pos rfl),λhk=>(g0u h1.1).2.trans (by rw[if_neg (by rw[hk];decide)];exact if_pos rfl)⟩
  ·exact⟨(ih h1.2 hm).1,(ih h1.2 hm).2⟩
theorem v0f{X:Cx}{f:FH}{x:Str}{y:V}{names:List Str}:∀{vs:List Value}{xs:List V},VRs X f vs xs->look x (names.zip xs)=some y->∃v,(x,v)∈names.zip vs∧VR X f v y:=by
 induction names with
 |nil=>exact λx0 h=>nomatch h
 |cons n ns ih=>
  intro vs xs hv h
  cases hv with
  |nil=>cases h
  |cons h1 h2=>
   rw[List.zip_cons_cons,look1] at h
   cases k:seq x n with
   |true=>rw[k] at h;cases h;rw[(a0h _ _).mp k];exact⟨_,.head _,h1⟩
   |false=>rw[k] at h;exact(ih h2 h).elim λw q=>⟨w,.tail _ q.1,q.2⟩
theorem s0v{v d n:Nat}(h1:v≤n)(h3:n≤v+d):n≤v+(d - (v+d - n)):=by lia
theorem VRs.drop{X:Cx}{f:FH}{vs:List Value}{l:List V}:∀(n:Nat),VRs X f vs l->VRs X f (vs.drop n) (l.drop n)
 |0,h=>h
 |n+1,h=>by
  cases h with
  |nil=>exact .nil
  |cons _ b=>exact VRs.drop n b
noncomputable def retOf:Fl->V
 | .ret y=>y
 |_=>.none
noncomputable def varsOf(D:FnD)(xs dxs:List V):Vars:=D.names.zip (xs++dxs.drop (xs.length+dxs.length - D.names.length))
section
variable {X:Cx} {A:Around} {K:Kx} {n:Nat} {B:Bs} {f f':FH} {s:Shared} {st st':Sx} {fl:Fl} {h h':Heap} {σ σ':Gs} {W:List Str} {D:FnD} {a:Addr}
theorem statics{σ:Gs}(S:St X f σ h):∃o,h.get? cStatics=some o:=by
 obtain⟨mc,⟨o,es,ep,e,r⟩,hm⟩:=S.nolim;exact⟨o,e⟩
theorem d0w(hF:FnIs X.K a D)(hs:ScOk D)(S:St X f σ s.heap)(K0:Kp X B.f₀ B.h₀ f s.heap)(hp:B.pins=[])(hst:∃o,B.h₀.get? cStatics=some o){vs:List Value}{xs dxs:List V}(hv:VRs X f vs xs)(hd:VRs X f D.dv dxs)
  (h1:vs.length≤D.names.length)(h2:D.dv.length≤D.names.length)(h3:D.names.length≤vs.length+D.dv.length)(hA:A.depth<recursionLimit){ow:Option (Str × Ow)}
  (hO:∀(env:Env)(h:Heap)(m cm:Str->Option Value),(∀b o,s.heap.get? b=some o->h.get? b=some o)->(∀b,(∃o,s.heap.get? b=some o)->b≠env.locals∧∀x∈env.cells,x.2≠b)->
   (∀z v,(z,v)∈D.names.zip (vs++dvFrom D vs.length)->valOf env m cm z=some v)->∀x o,ow=some (x,o)->∃v,valOf env m cm x=some v∧OR X env B f h v o)
  (hme:∀v,B.me=some v->(("self":Str),v)∈D.names.zip (vs++dvFrom D vs.length)){R:Result->Shared->Prop}
  (hB:∀(env:Env)(h:Heap)(t:Nat)(m cm:Str->Option Value),env.scope=D.sc->env.frame=some env.locals->Cz X env B->Rel X env B f h (varsOf D xs dxs) ow m cm->St X f σ h->
   wpAny X.M (A.deeper env) (execs D.body env) (λfl s'=>R (.ok (.ret (match fl with| .ret v=>v|_=>.none))) s')
    (λe s'=>wpAny X.M (A.deeper env) (leaving env e) (λx0 s''=>R (.error e) s'') (λe' s''=>R (.error e') s'') s') {s with heap:=h,toks:=t}):
  codeAny X.M A (.call (.ref a) ⟨vs,[]⟩) R s:=by
 obtain⟨o,fd,ho,hdata,hbody,hsc,hg,hclo,hbl,hcd⟩:=hF.ex
 refine codeAny_call_function hA (S.kin _ _ ho) hdata (by rw[hsc];exact hs.co) (by rw[hsc];exact hs.gen) hbody (codeRec_of S.kin hcd) (kp_binds S.kin (λS'=>(v0o ho hdata).symm.trans (hF.bind S' vs h1 h3)) _ _ _ _ ?_)
 rw[hsc,hg,hclo,hbl]
 generalize hb:D.names.zip (vs++dvFrom D vs.length)=binds at hO hme ⊢
 have hkeys:binds.map (·.1)=D.names:=by
  rw[←hb]
  exact List.map_fst_zip (by rw[List.length_append,dvFrom,List.length_drop];exact s0v h1 h3)
 have hkind:∀x∈binds,D.sc.names.lookup x.1=some .local∨(D.sc.names.lookup x.1=some .cell∧((cellsFrom (s.heap.objs.size+1) D.sc.names []).lookup x.1).isSome=true):=λx hx=>by
  have hx':x.1∈D.names:=by rw[←hkeys];exact List.mem_map.mpr ⟨x,hx,rfl⟩
  rcases hs.kinds _ hx' with q|q
  ·exact .inl q
  ·exact .inr ⟨q,cellsFrom_some _ _ _ (.inl q)⟩
 refine wpAny_newFunctionEnv_cells hs.fun_ hkind λenv he s' x=> ?_
 obtain⟨h₁,tk,rfl⟩:=x.toInCall.same
 have hkeep:=x.toInCall.keep
 have hscope:env.scope=D.sc:=by rw[he];rfl
 have hglob:env.globals=mainGlobals:=by rw[he];rfl
 have hbuil:env.builtins=builtinsNs:=by rw[he];rfl
 have hcells:env.cells=cellsFrom (s.heap.objs.size+1) D.sc.names []:=by rw[he];rfl
 have hloc:env.locals=s.heap.objs.size:=by rw[he];rfl
 have hfrm:env.frame=some env.locals:=by rw[he];rfl
 clear he
 dsimp only at hkeep
 have hns:=x.toInCall.ns
 dsimp only at hns
 have dead':∀c,s.heap.objs.size≤c->s.heap.get? c=none∧¬X.G c∧f c=none:=λc hc=>by
  have d:s.heap.get? c=none:=Heap.get?_none_of_le hc
  exact⟨d,λhg=>Nat.lt_irrefl _ (Nat.lt_of_lt_of_le (S.inv.lt c hg) hc),Option.eq_none_iff_forall_ne_some.mpr λo q=>Option.some_ne_none _ ((S.isIn _ _ q).symm.trans d)⟩
 have fresh:∀c,s.heap.objs.size≤c->Fresh X B f c:=λc hc=>by
  have z:=dead' c hc
  exact⟨Option.eq_none_iff_forall_ne_some.mpr λo q=>Option.some_ne_none _ ((K0.keep _ _ q z.2.1).symm.trans z.1),z.2.1,z.2.2,hp▸a0u⟩
 have hnd:(env.cells.map (·.1)).Nodup:=by
  rw[hcells,c0h,List.map_nil,List.append_nil]
  exact(List.reverse_perm _).nodup_iff.mpr hs.cells
 have hcl:∀z,env.kindOf z=some .cell∨env.kindOf z=some .free->(env.cells.lookup z).isSome=true:=λz hz=>by
  rcases hz with hz|hz
  ·rw[hcells]
   refine cellsFrom_some _ _ _ (.inl ?_)
   rw[←hscope];exact hz
  ·have:env.scope.names.lookup z=some .free:=hz
   rw[hscope] at this
   exact absurd rfl (hs.free _ (mem_of_lookup this))
 have C:Cz X env B:=⟨by rw[hscope];exact hs.fun_,hglob,hbuil,hst,hcl⟩
 have hval:∀z v,(z,v)∈binds->valOf env (bindL env.kindOf binds λx0=>none) (bindC env.kindOf binds λx0=>none) z=some v:=λz v hm=>by
  have hz:z∈D.names:=by rw[←hkeys];exact List.mem_map.mpr ⟨_,hm,rfl⟩
  have hk:env.kindOf z=some .local∨env.kindOf z=some .cell:=by have q:=hs.kinds z hz;rw[←hscope] at q;exact q
  have B:=a1q (k:=env.kindOf) (m:=λx0=>none) (hkeys▸hs.nodup) hm
  unfold valOf
  rcases hk with hk|hk
  ·rw[hk]
   exact B.1 hk
  ·rw[hk]
   obtain⟨c,hc⟩:=Option.isSome_iff_exists.mp (hcl z (.inl hk))
   rw[hc]
   exact B.2 hk
 have K1:Kp X B.f₀ B.h₀ f h₁:=⟨λb o e g=>hkeep _ _ (K0.keep _ _ e g),K0.le,K0.new⟩
 have S1:St X f σ h₁:=⟨S.base,λb o e=>hkeep _ _ (S.isIn _ _ e),S.inv.same λb o x0 e=>hkeep _ _ e,S.off,S.nolim.keeps hkeep⟩
 refine⟨S1.nolim,codeAny_func (hB env h₁ tk _ _ hscope hfrm C ⟨K1,λv e=>hval _ _ (hme v e),hp▸a0u,⟨hns,fresh _ (by rw[hloc];exact Nat.le_refl _),λz c e=>x.cell z c e,x.apart,λz c e=> ?_⟩,λz y e=> ?_,?_⟩ S1)⟩
 ·have lt:=x.above z c e
  obtain⟨o',e',_⟩:=x.cell z c (h0u hnd e)
  exact⟨fresh c (by rw[hloc] at lt;exact Nat.le_of_lt lt),λq=>by rw[q] at lt;exact Nat.lt_irrefl _ lt,o',e'⟩
 ·have hfull:VRs X f (vs++dvFrom D vs.length) (xs++dxs.drop (xs.length+dxs.length - D.names.length)):=by
   rw[←hv.length,←hd.length]
   exact hv.append (hd.drop _)
  obtain⟨v,m1,m2⟩:=v0f hfull e
  rw[hb] at m1
  exact⟨v,hval z v m1,m2⟩
 ·refine hO env h₁ _ _ hkeep (λb hb=> ?_) hval
  obtain⟨o',e'⟩:=hb
  have lb:=Heap.lt_size e'
  refine⟨λq=>by rw[q,hloc] at lb;exact Nat.lt_irrefl _ lb,λz hz q=> ?_⟩
  have:=x.above z.1 z.2 hz
  rw[hloc,q] at this
  exact Nat.lt_irrefl _ (Nat.lt_trans this lb)
theorem c0d(hF:FnIs X.K a D)(hs:ScOk D)(S:St X f σ s.heap)(K0:Kp X B.f₀ B.h₀ f s.heap)(hp:B.pins=[])(hst:∃o,B.h₀.get? cStatics=some o){vs:List Value}{xs dxs:List V}(hv:VRs X f vs xs)(hd:VRs X f D.dv dxs)
  (h1:vs.length≤D.names.length)(h2:D.dv.length≤D.names.length)(h3:D.names.length≤vs.length+D.dv.length)(hA:A.depth<recursionLimit){ow:Option (Str × Ow)}
  (hO:∀(env:Env)(h:Heap)(m cm:Str->Option Value),(∀b o,s.heap.get? b=some o->h.get? b=some o)->(∀b,(∃o,s.heap.get? b=some o)->b≠env.locals∧∀x∈env.cells,x.2≠b)->
   (∀z v,(z,v)∈D.names.zip (vs++dvFrom D vs.length)->valOf env m cm z=some v)->∀x o,ow=some (x,o)->∃v,valOf env m cm x=some v∧OR X env B f h v o)
  (hme:∀v,B.me=some v->(("self":Str),v)∈D.names.zip (vs++dvFrom D vs.length)){R:Result->Shared->Prop}
  (hB:∀(env:Env)(h:Heap)(t:Nat)(m cm:Str->Option Value),env.scope=D.sc->Cz X env B->Rel X env B f h (varsOf D xs dxs) ow m cm->St X f σ h->
   wpAny X.M (A.deeper env) (execs D.body env) (λfl s'=>R (.ok (.ret (match fl with| .ret v=>v|_=>.none))) s')
    (λe s'=>wpAny X.M (A.deeper env) (leaving env e) (λx0 s''=>R (.error e) s'') (λe' s''=>R (.error e') s'') s') {s with heap:=h,toks:=t}):
  codeAny X.M A (.call (.ref a) ⟨vs,[]⟩) R s:=
 d0w hF hs S K0 hp hst hv hd h1 h2 h3 hA hO hme λenv h t m cm a x0 b c d=>hB env h t m cm a b c d
end
section
variable {X:Cx} {A:Around} {K:Kx} {n:Nat} {B:Bs} {f f':FH} {s:Shared} {st st':Sx} {fl:Fl} {h h':Heap} {σ σ':Gs} {W:List Str} {D:FnD} {a:Addr} {xs dxs:List V}
theorem Room.deeper(hA:Room X A (n+1))(env:Env):Room X (A.deeper env) n:=by
 obtain⟨a,b,c⟩:=hA
 refine⟨a,?_,?_⟩
 ·show A.depth+1+2 * n<900;lia
 ·show A.units+3+16 * n+200<cLine;lia
theorem Room.rec(hA:Room X A (n+1)):A.depth<recursionLimit:=by
 have:=hA.2.1
 show A.depth<1000
 lia
theorem r0o(EK:KxOK X n K)(hA:Room X A n){env:Env}(C:Cz X env B){m cm:Str->Option Value}{k:Nat}(hsc:env.scope=D.sc)(R:Rel X env B f s.heap st.vars st.ow m cm)(S:St X f st.σ s.heap)
  (he:evSs (evS K W D.sc k) D.body st=some (fl,st')):TrS X A env B (execs D.body env) f st s fl st':=by
 rw[←hsc] at he
 exact c0a C (c0m EK hA k env B C) D.body st fl st' f s m cm he R S
theorem fn_ok(EK:KxOK X n K)(hF:FnIs X.K a D)(hs:ScOk D)(hd:∀f,BaseIn X f->VRs X f D.dv dxs)(k:Nat)(W:List Str)(h1:Nat.ble xs.length D.names.length=true)(h2:Nat.ble dxs.length D.names.length=true)(h3:Nat.ble D.names.length (xs.length+dxs.length)=true)
  (he:evSs (evS K W D.sc k) D.body ⟨varsOf D xs dxs,none,σ⟩=some (fl,st')):FnV X (n+1) (.ref a) xs σ (retOf fl) st'.σ:=by
 refine⟨e0u hF.keep,λA f s vs hA S hv Q E hQ=>wpAny_call ?_⟩
 have hdv:=hd f S.base
 have l1:=hv.length
 have l2:=hdv.length
 refine c0d (B:=⟨f,s.heap,[],none⟩) hF hs S Kp.refl rfl (statics S) hv hdv (by rw[l1];exact Nat.le_of_ble_eq_true h1) (by rw[l2];exact Nat.le_of_ble_eq_true h2) (by rw[l1,l2];exact Nat.le_of_ble_eq_true h3) hA.rec (ow:=none)
  (λenv h m cm x0 x0 x0 x o e=>by cases e) (λv e=>by cases e) λenv h t m cm hsc C R S'=> ?_
 refine r0o (s:={s with heap:=h,toks:=t}) EK (hA.deeper env) C hsc R S' he _ _ λfl' f' h' t' m' cm' r le S'' R'=> ?_
 cases r with
 |next=>exact hQ _ f' h' t' R'.kp S'' .none
 |brk=>exact hQ _ f' h' t' R'.kp S'' .none
 |ret r=>exact hQ _ f' h' t' R'.kp S'' r
end
section
variable {X:Cx} {A:Around} {K:Kx} {n:Nat} {B:Bs} {f f':FH} {s:Shared} {st st':Sx} {fl:Fl} {h h':Heap} {σ σ':Gs} {W:List Str} {D:FnD} {a:Addr} {xs dxs:List V}
structure Mk(K:Frag)(C g:Addr):Prop where
 makes:makesIn K C=true
 init:findIn K (.ref C) "__init__"=some (some (.ref g))
 fn:typeIn K (.ref g)=some (.type "function")
 keep:keepIn K (.ref C)=true
theorem w0f(EK:KxOK X n K){C g:Addr}(hM:Mk X.K C g)(hF:FnIs X.K g D)(hs:ScOk D)(hd:∀f,BaseIn X f->VRs X f D.dv dxs){ns:List Str}(hn:D.names=("self":Str)::ns)(k:Nat)(W:List Str)
  (h1:Nat.ble (xs.length+1) D.names.length=true)(h2:Nat.ble dxs.length D.names.length=true)(h3:Nat.ble D.names.length (xs.length+1+dxs.length)=true){fs:List (Str × V)}
  (he:evSs (evS K W D.sc k) D.body ⟨varsOf D (.any::xs) dxs,some ("self",.ins C []),σ⟩=some (.next,st'))(ho:st'.ow=some (("self":Str),Ow.ins C fs))
  (hA:Room X A (n+1))(S:St X f σ s.heap){vs:List Value}(hv:VRs X f vs xs){Q:Value->Shared->Prop}{E:Value->Shared->Prop}
  (hQ:∀x d es k f' h' t',Kp X f s.heap f' h'->St X f' st'.σ h'->h'.get? x=some (instObj C d)->h'.get? d=some {cls:=.type "dict",data:=.dict (List.toArray es) k}->VRd X f' es fs->s.heap.get? x=none->¬X.G x->f' x=none->
   s.heap.get? d=none->¬X.G d->f' d=none->x≠d->Q (.ref x) {s with heap:=h',toks:=t'}):wpAny X.M A (call (.ref C) vs) Q E s:=by
 refine wpAny_call ?_
 obtain⟨h,gs,dr,t,os⟩:=s
 dsimp only at S hQ ⊢
 refine make_core (makes_of S.kin hM.makes) (looks_findIn S.kin hM.init) (λself=>bind_fn S.kin self hM.fn) (.inl rfl) ?_
 have S1:St X f σ (h.push emptyDict):=S.push
 have S2:St X f σ ((h.push emptyDict).push (instObj C h.objs.size)):=S1.push
 have K2:Kp X f h f ((h.push emptyDict).push (instObj C h.objs.size)):=(Kp.push _).trans (Kp.push _)
 have hsz:(h.push emptyDict).objs.size=h.objs.size+1:=Heap.size_push ..
 have gx:((h.push emptyDict).push (instObj C h.objs.size)).get? (h.objs.size+1)=some (instObj C h.objs.size):=by rw[←hsz];exact Heap.get?_push_size _ rfl
 have gd:((h.push emptyDict).push (instObj C h.objs.size)).get? h.objs.size=some emptyDict:=Heap.get?_push_of_some _ (Heap.get?_push_size _ rfl)
 have fr:∀c,h.objs.size≤c->Fresh X ⟨f,h,[],some (.ref (h.objs.size+1))⟩ f c:=λc hc=>by
  have d:h.get? c=none:=Heap.get?_none_of_le hc
  refine⟨d,λhg=>Nat.lt_irrefl _ (Nat.lt_of_lt_of_le (S.inv.lt c hg) hc),?_,λp hp=>nomatch hp⟩
  exact b0i (λo q=>S.isIn _ _ q) (d)
 have hdv:=hd f S.base
 have l1:=hv.length
 have l2:=hdv.length
 have hdep:(A.under (.builtin "type.__call__" ⟨.ref C::vs,[]⟩)).depth=A.depth+1:=rfl
 refine c0d (s:=⟨(h.push emptyDict).push (instObj C h.objs.size),gs,dr,t,os⟩) (B:=⟨f,h,[],some (.ref (h.objs.size+1))⟩) hF hs S2 K2 rfl (statics S) (vs:=.ref (h.objs.size+1)::vs) (xs:=.any::xs) (.cons (.any _) hv) hdv
  (by rw[List.length_cons,l1];exact Nat.le_of_ble_eq_true h1) (by rw[l2];exact Nat.le_of_ble_eq_true h2) (by rw[List.length_cons,l1,l2];exact Nat.le_of_ble_eq_true h3) (by rw[hdep];have:=hA.2.1;show A.depth+1<1000;lia)
  (ow:=some ("self",.ins C [])) (λenv h' m cm hk hne hval x o e=> ?_) (λv e=> ?_) λenv h' t' m cm hsc C' R S'=> ?_
 ·cases e
  refine⟨.ref (h.objs.size+1),hval _ _ (by rw[hn];exact .head _),h.objs.size+1,h.objs.size,[],0,rfl,hk _ _ gx,hk _ _ gd,.nil,⟨fr _ (Nat.le_succ _),hne _ ⟨_,gx⟩⟩,⟨fr _ (Nat.le_refl _),hne _ ⟨_,gd⟩⟩,by simp⟩
 ·cases e
  rw[hn];exact .head _
 ·have hr:Room X ((A.under (.builtin "type.__call__" ⟨.ref C::vs,[]⟩)).deeper env) n:=by
   obtain⟨a,b,c⟩:=hA
   refine⟨a,?_,?_⟩
   ·show A.depth+1+1+2 * n<900;lia
   ·show A.units+_+3+16 * n+200<cLine
    have:(Code.builtin "type.__call__" ⟨.ref C::vs,[]⟩).cUnits≤13:=Nat.le_of_ble_eq_true (by kernel_rfl)
    lia
  refine r0o (s:=⟨h',gs,dr,t',os⟩) EK hr C' hsc R S' he _ _ λfl' f' h'' t'' m' cm' r le S'' R'=> ?_
  rw[ho] at R'
  obtain⟨v,hv',a,d,es,k',rfl,g1,g2,g3,o1,o2,ne⟩:=R'.own _ _ rfl
  have:=R'.me _ rfl
  rw[this] at hv'
  cases hv'
  cases r
  exact⟨rfl,hQ _ d es k' f' h'' t'' R'.kp S'' g1 g2 g3 o1.1.at0 o1.1.ng o1.1.off o2.1.at0 o2.1.ng o2.1.off ne⟩
theorem mk_ok(EK:KxOK X n K){C g:Addr}(hM:Mk X.K C g)(hF:FnIs X.K g D)(hs:ScOk D)(hd:∀f,BaseIn X f->VRs X f D.dv dxs){ns:List Str}(hn:D.names=("self":Str)::ns)(k:Nat)(W:List Str)
  (h1:Nat.ble (xs.length+1) D.names.length=true)(h2:Nat.ble dxs.length D.names.length=true)(h3:Nat.ble D.names.length (xs.length+1+dxs.length)=true){fs:List (Str × V)}
  (he:evSs (evS K W D.sc k) D.body ⟨varsOf D (.any::xs) dxs,some ("self",.ins C []),σ⟩=some (.next,st'))(ho:st'.ow=some (("self":Str),Ow.ins C fs)):FnV X (n+1) (.ref C) xs σ (.obj C fs) st'.σ:=by
 refine⟨e0u hM.keep,λA f s vs hA S hv Q E hQ=>w0f EK hM hF hs hd hn k W h1 h2 h3 he ho hA S hv λx d es k f' h' t' K' S' g1 g2 g3 x1 x2 x3 d1 d2 d3 ne=> ?_⟩
 have le1:=FH.put_le'' (o:={cls:=.type "dict",data:=.dict (List.toArray es) k}) d3
 have x3':(f'.put d {cls:=.type "dict",data:=.dict (List.toArray es) k}) x=none:=by rw[FH.put_other ne];exact x3
 have le2:=FH.put_le'' (o:=instObj C d) x3'
 refine hQ _ ((f'.put d {cls:=.type "dict",data:=.dict (List.toArray es) k}).put x (instObj C d)) h' t' ⟨K'.keep,K'.le.trans (le1.trans le2),λb o e=> ?_⟩ ⟨λb o e=>le2 _ _ (le1 _ _ (S'.base b o e)),λb o e=> ?_,S'.inv,λb hb=> ?_,S'.nolim⟩
  (.obj (FH.put_self ..) (le2 _ _ (FH.put_self ..)) (g3.mono (le1.trans le2)))
 ·unfold FH.put at e
  split at e
  ·rename_i q;subst q;exact .inr ⟨x1,x2⟩
  ·split at e
   ·rename_i q;subst q;exact .inr ⟨d1,d2⟩
   ·exact K'.new b o e
 ·unfold FH.put at e
  split at e
  ·rename_i q;subst q;cases e;exact g1
  ·split at e
   ·rename_i q;subst q;cases e;exact g2
   ·exact S'.isIn _ _ e
 ·have nx:b≠x:=λq=>x2 (by rw[←q];exact hb)
  have nd:b≠d:=λq=>d2 (by rw[←q];exact hb)
  rw[FH.put_other nx,FH.put_other nd];exact S'.off b hb
end
noncomputable def getI(i:Int)(l:List (Int × V))(d:V):V:=match l with
 |[]=>d
 |p::r=>match ieq i p.1 with
  |true=>p.2
  |false=>getI i r d
section
variable {X:Cx} {A:Around} {f f':FH} {s:Shared} {h h':Heap} {σ σ':Gs} {xs:List V} {y:V} {n:Nat}
theorem d1g{i:Int}(h:i.natAbs<2 ^ 40):i.natAbs.log2<1920:=by
 by_cases h0:i.natAbs=0
 ·rw[h0];decide
 ·have:i.natAbs.log2<40:=(Nat.log2_lt h0).mpr h
  lia
theorem VRs.one'{vs:List Value}{x:V}(h:VRs X f vs [x]):∃v,vs=[v]∧VR X f v x:=by
 cases h with|cons a b=>cases b;exact⟨_,rfl,a⟩
theorem VRs.two'{vs:List Value}{x y:V}(h:VRs X f vs [x,y]):∃v w,vs=[v,w]∧VR X f v x∧VR X f w y:=by
 cases h with|cons a b=>obtain⟨w,rfl,c⟩:=b.one';exact⟨_,_,rfl,a,c⟩
theorem VRs.three'{vs:List Value}{x y z:V}(h:VRs X f vs [x,y,z]):∃u v w,vs=[u,v,w]∧VR X f u x∧VR X f v y∧VR X f w z:=by
 cases h with|cons a b=>obtain⟨v,w,rfl,c,d⟩:=b.two';exact⟨_,_,_,rfl,a,c,d⟩
end
noncomputable abbrev IsiOK(x:V)(c:Value)(b:Bool):Prop:=∀{X:Cx}{A:Around}{f:FH}{σ:Gs}{s:Shared}{v:Value},St X f σ s.heap->VR X f v x->Tr X A (call (.builtin "isinstance") [v,c]) f σ s (.bool b) σ
noncomputable def isiT(T:String)(x:V):Option {b:Bool // IsiOK x (.type T) b}:=match T with
 |"int"=>onS x.toInt? λi hi=>some ⟨true,λS h Q E hQ=>by
  obtain⟨t,rfl⟩:=h.toInt hi
  exact PySem.IsiPair.int_int (here' S hQ (.bool _))⟩
 |"bool"=>onS x.toInt? λi hi=>some ⟨false,λS h Q E hQ=>by
  obtain⟨t,rfl⟩:=h.toInt hi
  exact PySem.IsiPair.int_bool (here S hQ (.bool _))⟩
 |"str"=>match x with
  | .str w=>some ⟨true,λS h Q E hQ=>by
   cases h using VR.eStr with
   |str=>exact PySem.IsiPair.str_str (here' S hQ (.bool _))⟩
  |_=>none
 |"tuple"=>match x with
  | .tup l=>some ⟨true,λS h Q E hQ=>by
   cases h using VR.eTup with
   |tup fv rv=>exact PySem.IsiPair.tuple_tuple (S.isIn _ _ fv) rfl (here' S hQ (.bool _))⟩
  |_=>none
 |_=>none
noncomputable def isiP(x:V)(c:Value):Option {b:Bool // IsiOK x c b}:=match c with
 | .type T=>isiT T x
 |_=>none
noncomputable def LenOK(x:V)(k:Nat):Prop:=∀(X:Cx)(A:Around)(f:FH)(σ:Gs)(s:Shared)(v:Value),Nat.ble k 4000=true->St X f σ s.heap->VR X f v x->Tr X A (call (.builtin "len") [v]) f σ s (.int (Int.ofNat k)) σ
theorem q0b{l:List V}{n:Nat}:LenOK (.lst l n) l.length:=λX A f σ s v hk S h Q E hQ=>by
 cases h using VR.eLst with
 | @lst a vs j fv rv hn=>
  have hl:vs.toArray.size=l.length:=by rw[List.size_toArray,rv.length]
  refine call_len_list (S.list fv) (by rw[hl];have:=Nat.le_of_ble_eq_true hk;lia) ?_
  rw[hl];exact here S hQ (.int _ _)
theorem n0v{l:List V}:LenOK (.tup l) l.length:=λX A f σ s v hk S h Q E hQ=>by
 cases h using VR.eTup with
 | @tup a vs fv rv=>
  have hl:vs.toArray.size=l.length:=by rw[List.size_toArray,rv.length]
  refine len_tuple (S.tup fv) (by rw[hl];have:=Nat.le_of_ble_eq_true hk;lia) ?_
  rw[hl];exact here S hQ (.int _ _)
theorem s0m{w:Wd}{l:List Nat}(hl:wlit w=some l):LenOK (.str w) l.length:=λX A f σ s v hk S h Q E hQ=>by
 cases h using VR.eStr with
 |str t hw=>
 have e1:(wden w).length=l.length:=by
  show(wcps w).toArray.size=_
  rw[a0x hl,List.size_toArray]
 refine PySem.P.len_str (by rw[e1];have:=Nat.le_of_ble_eq_true hk;lia) ?_
 rw[e1];exact here S hQ (.int _ _)
noncomputable def lenS(x:V):Option {k:Nat // LenOK x k}:=match x with
 | .lst l n=>some ⟨l.length,q0b⟩
 | .tup l=>some ⟨l.length,n0v⟩
 |_=>none
noncomputable def lenP(x:V):Option {k:Nat // LenOK x k}:=match x with
 | .lst l n=>some ⟨l.length,q0b⟩
 | .tup l=>some ⟨l.length,n0v⟩
 | .str w=>onS (wlit w) λl hl=>some ⟨l.length,s0m hl⟩
 | .abs d=>onP (lenS (den d)) λk hk=>some ⟨k,λX A f σ s v hb S h=>hk X A f σ s v hb S h.inv.2⟩
 |_=>none
theorem numS:∀k:Nat,k<30->wlen (intW (Int.ofNat k - 9))≤16:=by decide+kernel
theorem octShort:∀{k:Nat},k<200->wlen (intW (Int.ofNat k))≤16:=by
 have:∀k,k<200->wlen (intW (Int.ofNat k))≤16:=by decide+kernel
 exact λ{k} h=>this k h
theorem numShort{i:Int}(h1: -9≤i)(h2:i≤20):wlen (intW i)≤16:=by
 have:=numS (i+9).toNat (by lia)
 rwa [show Int.ofNat (i+9).toNat - 9=i by show(((i+9).toNat:Nat):Int) - 9=i;lia] at this
noncomputable def StrOK(x:V)(w:Wd):Prop:=∀(X:Cx)(A:Around)(f:FH)(σ:Gs)(s:Shared)(v:Value),St X f σ s.heap->VR X f v x->Tr X A (call (.type "str") [v]) f σ s (.str w) σ
theorem h0n{X:Cx}{A:Around}{f:FH}{σ:Gs}{s:Shared}(S:St X f σ s.heap){i:Int}{t:Tok}{w:Wd}(hi:i.natAbs<2 ^ 30)(ho:wok w)(hw:wden w=Str.ofString (toString i)):Tr X A (call (.type "str") [.int i t]) f σ s (.str w) σ:=λQ E hQ=>by
 refine PySem.P.str_of_int (d1g (Nat.lt_trans hi (by decide))) ?_
 rw[←hw]
 exact here S hQ (.str _ ho)
theorem j0n{i:Int}(hi:wlen (intW i)≤16):wok (numH i):=by
 refine⟨?_,trivial⟩
 show(Str.ofString (toString i)).length≤16
 rw[←k0w]
 exact Nat.le_trans (a0s (e0e _)) hi
noncomputable def strP(x:V):Option {w:Wd // StrOK x w}:=match x with
 | .num n=>some ⟨numH n,λX A f σ s v S h=>by
  cases h using VR.eNum with
  |num t h1 h2=>exact h0n S (by lia) (j0n (numShort h1 h2)) (a0e _ _)⟩
 | .oct n=>some ⟨numH (Int.ofNat n),λX A f σ s v S h=>by
  cases h using VR.eOct with
  |oct t h1=>exact h0n S (show n<2 ^ 30 from Nat.lt_trans h1 (by decide)) (j0n (octShort h1)) (a0e _ _)⟩
 | .int i=>onT (decide (i.natAbs<1073741824)) λhi=>some ⟨intW i,λX A f σ s v S h=>by
  cases h using VR.eInt with
  |int t=>exact h0n S (of_decide_eq_true hi) (e0e _) (k0w _)⟩
 |_=>none
noncomputable abbrev JoinOK(l:List V)(w:Wd):Prop:=∀{X:Cx}{f:FH}{vs:List Value},VRs X f vs l->∃sl:List (Str × Tok),strValues sl=vs∧wok w∧wcps w=(sl.map λp=>p.1.cps.toList).flatten
noncomputable def joinCons(w:Wd)(r:List V)(rc:Option {w:Wd // JoinOK r w}):Option {v:Wd // JoinOK (.str w::r) v}:=onP rc λv hv=>some ⟨w++v,λh=>by
 cases h with
 |cons h r=>
 obtain⟨sl,rfl,e2,e3⟩:=hv r
 cases h using VR.eStr with
 |str t hw=>exact⟨(wden w,t)::sl,rfl,a0p hw e2,by rw[b0u,e3];rfl⟩⟩
theorem p0g:JoinOK [] []:=λh=>by cases h;exact⟨[],rfl,trivial,rfl⟩
noncomputable def joinP:(l:List V)->Option {w:Wd // JoinOK l w}
 |[]=>some ⟨[],p0g⟩
 |x::r=>match x with
  | .str w=>joinCons w r (joinP r)
  |_=>none
section
variable {X:Cx} {A:Around} {f f':FH} {s:Shared} {h h':Heap} {σ σ':Gs} {xs:List V} {y:V} {n:Nat}
theorem i0o(k:Int)(v:Value)(es:List (Int × Value))(i:Int):valueAt ((k,v)::es) i=cond (ieq i k) (some v) (valueAt es i):=by
 unfold valueAt ieq
 by_cases q:i=k
 ·subst q
  rw[List.find?_cons_of_pos (by simp),decide_eq_true rfl]
  rfl
 ·rw[List.find?_cons_of_neg (by simp;exact λe=>q e.symm),decide_eq_false q]
  rfl
theorem z0n{f:FH}{i:Int}{dv:Value}{d:V}(hd:VR X f dv d){kvs:List (Int × Value)}{l:List (Int × V)}(h:VRi X f kvs l):VR X f ((valueAt kvs i).getD dv) (getI i l d):=by
 refine h.ind (motive:=λkvs l=>VR X f ((valueAt kvs i).getD dv) (getI i l d)) hd ?_
 intro k v x es xs h r ih
 rw[i0o]
 unfold getI
 dsimp only
 cases ieq i k with
 |true=>exact h
 |false=>exact ih
theorem k0u:∀(l:List Str),(Str.join (wden []) l).cps.toList=(l.map λp=>p.cps.toList).flatten
 |[]=>rfl
 |[x]=>by simp[Str.join]
 |x::y::r=>by
  show((x++wden [])++Str.join (wden []) (y::r)).cps.toList=_
  rw[c0i,c0i,k0u (y::r)]
  simp[a0i,wcps]
theorem x0u{t:Tok}{a:Addr}{l:List V}{k:Nat}{v:Wd}(S:St X f σ s.heap)(h:VR X f (.ref a) (.lst l k))(e:JoinOK l v)(h1:Nat.ble (wlen v) 65536=true)(h2:Nat.ble l.length 64=true):Tr X A (call (.builtin "str.join") [.str (wden []) t,.ref a]) f σ s (.str v) σ:=by
 intro Q E hQ
 cases h using VR.eLst with
 | @lst _ vs j fv rv hn=>
 obtain⟨sl,rfl,e2,e3⟩:=e rv
 have hlen:sl.length=l.length:=by rw[←rv.length];simp[strValues]
 have hb:∀y∈sl.map (·.1),y.length≤65536:=by
  intro y hy
  have:y.cps.toList.length≤(wcps v).length:=by
   rw[e3]
   obtain⟨p,hp,rfl⟩:=List.mem_map.mp hy
   exact(List.sublist_flatten_of_mem (List.mem_map.mpr ⟨p,hp,rfl⟩):List.Sublist p.1.cps.toList _).length_le
  have h3:(wcps v).length≤wlen v:=by
   have:=a0s e2
   have q:(wden v).length=(wcps v).length:=by show(wcps v).toArray.size=_;simp
   lia
  have:=Nat.le_of_ble_eq_true h1
  show y.cps.size≤_
  rw[←Array.length_toList];lia
 refine SC.join (texts:=sl.map (·.1)) (S.list fv) rfl ?_ λt' k'=> ?_
 ·unfold JoinOk
  rw[StrLaws.joinFits hb (by rw[List.length_map,hlen];have:=Nat.le_of_ble_eq_true h2;show _ * 65536+_ * 0≤_;lia)]
  rfl
 ·have:Txt.join (wden []) (sl.map (·.1))=wden v:=b0k (by
   show(Builtin.Str.glued (wden []) (sl.map (·.1))).cps.toList=_
   rw[StrLaws.glued_eq_join,k0u,a0i,e3,List.map_map];rfl)
  rw[this]
  exact here S hQ (.str _ e2)
theorem d1q{d k dv:Value}{l:List (Int × V)}{kx dx:V}{i:Int}(S:St X f σ s.heap)(h:VR X f d (.dct l))(hk:VR X f k kx)(hi:kx.toInt? =some i)(hd:VR X f dv dx):Tr X A (call (.builtin "dict.get") [d,k,dv]) f σ s (getI i l dx) σ:=by
 intro Q E hQ
 cases h using VR.eDct with
 | @dct a o kvs fa hdi hsys hi'=>
 obtain⟨t,rfl⟩:=hk.toInt hi
 have hm:s.heap.DictOf (intKind X.P X.w) a kvs:=Heap.dictOf_iff.mpr ⟨o,S.isIn _ _ fa,hdi⟩
 refine call_meetsIn F.slot_dict_get hm.typeIs F.entry_dict_get (F.args_dict_get_3 _ _ _) (meets_dict_get_default (intKind X.P X.w) (k:=i) a ?_ hsys dv) ⟨_,hm.mapOf,?_⟩
 ·show((i:Int)==i)=true
  exact beq_self_eq_true _
 ·exact here S hQ (z0n hd hi')
end
section
variable {X:Cx} {A:Around} {f f':FH} {s:Shared} {h h':Heap} {σ σ':Gs} {xs:List V} {y:V} {n:Nat}
theorem x0p{i:Int}:(if i<0 then -i else i)=Int.ofNat i.natAbs:=by
 show _=((i.natAbs:Nat):Int)
 split<;>lia
end
noncomputable def BiOK(g:Value)(xs:List V)(y:V):Prop:=∀X n σ,FnV X n g xs σ y σ
noncomputable abbrev BiR(g:Value)(xs:List V):=Option {y:V // BiOK g xs y}
theorem BiOK.of1{g:Value}{x y:V}(hc:∀X,CW X g)(H:∀(X:Cx)(A:Around)(f:FH)(σ:Gs)(s:Shared)(v:Value),St X f σ s.heap->VR X f v x->Tr X A (call g [v]) f σ s y σ):BiOK g [x] y:=λX n σ=>⟨hc X,λA f s vs hA S hv=>by
 cases hv with
 |cons hV hv=>
 cases hv
 exact H _ _ _ _ _ _ S hV⟩
theorem BiOK.of2{g:Value}{x z y:V}(hc:∀X,CW X g)(H:∀(X:Cx)(A:Around)(f:FH)(σ:Gs)(s:Shared)(v w:Value),St X f σ s.heap->VR X f v x->VR X f w z->Tr X A (call g [v,w]) f σ s y σ):BiOK g [x,z] y:=λX n σ=>⟨hc X,λA f s vs hA S hv=>by
 cases hv with
 |cons hV hv=>
 cases hv with
 |cons hW hv=>
 cases hv
 exact H _ _ _ _ _ _ _ S hV hW⟩
noncomputable def biB1(id:String)(x:V):BiR (.builtin id) [x]:=match id with
 |"abs"=>onS x.toInt? λi hi=>some ⟨.int (Int.ofNat i.natAbs),.of1 (λx0=>a0l) λX A f σ s v S hv Q E hQ=>by
  obtain⟨t,rfl⟩:=hv.toInt hi
  refine call_abs_int λu tk=> ?_
  rw[x0p]
  exact here S hQ (.int _ _)⟩
 |"len"=>onP (lenP x) λk hk=>onT (Nat.ble k 4000) λhb=>some ⟨.int (Int.ofNat k),.of1 (λx0=>a0l) λX A f σ s v S hv=>hk _ _ _ _ _ _ hb S hv⟩
 |"chr"=>onS x.toInt? λi hi=>onT (decide (0≤i)) λh0=>onT (decide (i≤255)) λh1=>some ⟨.str [.c i.toNat],.of1 (λx0=>a0l) λX A f σ s v S hv Q E hQ=>by
  obtain⟨t,rfl⟩:=hv.toInt hi
  have h0:=of_decide_eq_true h0
  have h1:=of_decide_eq_true h1
  exact PySem.P.chr_of_int (by simp only [Bool.or_eq_false_iff,decide_eq_false_iff_not];lia) (here S hQ (x:=.str [.c i.toNat]) (.str (w:=[.c i.toNat]) _ ⟨trivial,trivial⟩))⟩
 |"ord"=>match x with
  | .str w=>onS (wlit w) λl hl=>match l with
   |[c]=>some ⟨.int (Int.ofNat c),.of1 (λx0=>a0l) λX A f σ s v S hv Q E hQ=>by
    cases hv using VR.eStr with
    |str t hw=>
    rw[show wden w=⟨#[c]⟩ from b0k (by rw[a0i,a0x hl])]
    exact PySem.P.ord_of_char (here S hQ (.int _ _))⟩
   |_=>none
  |_=>none
 |_=>none
noncomputable def biB2(id:String)(x z:V):BiR (.builtin id) [x,z]:=match id with
 |"isinstance"=>match z with
  | .con c=>onP (isiP x c) λb hb=>some ⟨.bool b,.of2 (λx0=>a0l) λX A f σ s v w S hv hw=>by
   cases hw using VR.eCon
   exact hb S hv⟩
  |_=>none
 |"divmod"=>onS x.toInt? λi hi=>onS z.toInt? λj hj=>onF (ieq j 0) (λx0=>none) λh0=>onT (decide (j.natAbs<1073741824)) λh1=>some ⟨.tup [.int (i.fdiv j),.int (i.fmod j)],.of2 (λx0=>a0l) λX A f σ s v w S hv hw Q E hQ=>by
  obtain⟨t,rfl⟩:=hv.toInt hi
  obtain⟨u,rfl⟩:=hw.toInt hj
  refine divmod_int (f0t h0) ?_ (.inl (PyProof.noPylong_small (of_decide_eq_true h1)))
  have:=made (x:=.tup [.int (i.fdiv j),.int (i.fmod j)]) S hQ (o:={cls:=.type "tuple",data:=.seq #[.int (i.fdiv j) s.toks,.int (i.fmod j) (s.toks+1)]}) (t:=s.toks+1+1) rfl λf' le e=>.tup (vs:=[.int (i.fdiv j) s.toks,.int (i.fmod j) (s.toks+1)]) e (.cons (.int _ _) (.cons (.int _ _) .nil))
  exact this⟩
 |"str.join"=>match x,z with
  | .str [],.lst l n=>onP (joinP l) λv hj=>onT (Nat.ble (wlen v) 65536) λh1=>onT (Nat.ble l.length 64) λh2=>some ⟨.str v,.of2 (λx0=>a0l) λX A f σ s a b S hv hw=>by
   cases hv using VR.eStr with
   |str t _=>
   have hw':=hw
   cases hw' using VR.eLst with
   |lst _ _ _=>exact x0u S hw hj h1 h2⟩
  |_,_=>none
 |_=>none
noncomputable def biBP(id:String)(xs:List V):BiR (.builtin id) xs:=match xs with
 |[x]=>biB1 id x
 |[x,z]=>biB2 id x z
 |[.dct l,k,d]=>match id with
  |"dict.get"=>onS k.toInt? λi hi=>some ⟨getI i l d,λX n σ=>⟨a0l,λA f s vs hA S hv=>by
   cases hv with
   |cons g1 hv=>
   cases hv with
   |cons g2 hv=>
   cases hv with
   |cons g3 hv=>
   cases hv
   exact d1q S g1 g2 hi g3⟩⟩
  |_=>none
 |_=>none
noncomputable def boolI(b:Bool):Int:=match b with|true=>1|false=>0
noncomputable def biT1(T:String)(x:V):BiR (.type T) [x]:=match T with
 |"str"=>onP (strP x) λw hw=>some ⟨.str w,.of1 (λx0=>c0g) λX A f σ s v S hv=>hw _ _ _ _ _ _ S hv⟩
 |"int"=>match x with
  | .bool b=>some ⟨.int (boolI b),.of1 (λx0=>c0g) λX A f σ s v S hv Q E hQ=>by
   cases hv using VR.eBool with
   |bool=>
   refine call_int_bool ?_
   cases b<;>exact here S hQ (.int _ _)⟩
  |_=>none
 |"tuple"=>match x with
  | .tup l=>some ⟨.tup l,.of1 (λx0=>c0g) λX A f σ s v S hv Q E hQ=>by
   have hv':=hv
   cases hv using VR.eTup with
   |tup fv rv=>exact call_tuple_tup (S.tup fv) (here' S hQ hv')⟩
  | .lst l k=>onT (Nat.ble k 4000) λhb=>some ⟨.tup l,.of1 (λx0=>c0g) λX A f σ s v S hv Q E hQ=>by
   cases hv using VR.eLst with
   | @lst a vs j fv rv hn=>
   refine call_tuple_list (S.list fv) (λh' hk=> ?_) (by rw[List.size_toArray,rv.length];exact Nat.le_trans hn (Nat.le_trans (Nat.le_of_ble_eq_true hb) (by decide)))
   have K1:Kp X f s.heap f h':=⟨λb o e x0=>hk b o e,FH.le.refl f,λx0 x0 e=>.inl e⟩
   have S1:St X f σ h':=⟨S.base,λb o e=>hk _ _ (S.isIn _ _ e),S.inv.same λb o x0 e=>hk _ _ e,S.off,S.nolim.keeps hk⟩
   have z:=S1.alloc (o:={cls:=.type "tuple",data:=.seq vs.toArray}) rfl
   exact hQ _ _ _ _ (K1.trans z.2) z.1 (.tup (FH.put_self ..) (rv.mono z.2.le))⟩
  |_=>none
 |"range"=>onS x.toInt? λi hi=>onT (decide (0≤i)) λh0=>onT (decide (i≤1000)) λh1=>some ⟨.rng i.toNat,.of1 (λx0=>c0g) λX A f σ s v S hv Q E hQ=>by
  obtain⟨t,rfl⟩:=hv.toInt hi
  obtain⟨m,rfl⟩:=Int.eq_ofNat_of_zero_le (of_decide_eq_true h0)
  exact call_range_1 (made S hQ rfl λf' le e=>.rng e)⟩
 |_=>none
noncomputable def biTP(T:String)(xs:List V):BiR (.type T) xs:=match xs with
 |[x]=>biT1 T x
 |_=>none
noncomputable def biP(g:Value)(xs:List V):BiR g xs:=match g with
 | .builtin id=>biBP id xs
 | .type T=>biTP T xs
 |_=>none
noncomputable def biT(T:String)(xs:List V):Option V:=valO (biTP T xs)
noncomputable def biV(g:Value)(xs:List V):Option V:=valO (biP g xs)
theorem e1j{X:Cx}{g:Value}{xs:List V}{σ:Gs}{y:V}{n:Nat}(e:biV g xs=some y):FnV X n g xs σ y σ:=a0t e _ _ _
theorem c1b{X:Cx}{T:String}{xs:List V}{σ:Gs}{y:V}{n:Nat}(e:biT T xs=some y):FnV X n (.type T) xs σ y σ:=a0t e _ _ _
example:biV (.builtin "abs") [.int (-3)]=some (.int 3):=by kernel_rfl
example:biV (.builtin "str.join") [.str [],.lst [.str (wS "ab"),.str (wS "c")] 2]=some (.str (wS "abc")):=by kernel_rfl
structure FnE where
 a:Addr
 D:FnD
 dxs:List V
 W:List Str
noncomputable def findE(a:Addr)(l:List FnE):Option FnE:=@List.rec FnE (λ_=>Option FnE) none (λe _ ih=>@Bool.rec (λ_=>Option FnE) ih (some e) (Nat.beq a e.a)) l
theorem a1x(a:Addr)(e:FnE)(r:List FnE):findE a (e::r)=match Nat.beq a e.a with|true=>some e|false=>findE a r:=by
 show(@Bool.rec (λ_=>Option FnE) (findE a r) (some e) (Nat.beq a e.a))=_
 cases Nat.beq a e.a<;>rfl
theorem a0q{a:Addr}{e:FnE}:∀{l:List FnE},findE a l=some e->e∈l∧e.a=a
 |d::r,h=>by
  rw[a1x] at h
  cases q:Nat.beq a d.a with
  |true=>rw[q] at h;cases h;exact⟨.head _,(Nat.eq_of_beq_eq_true q).symm⟩
  |false=>rw[q] at h;exact⟨.tail _ (a0q h).1,(a0q h).2⟩
noncomputable abbrev Ov:=Value->List V->Gs->Option (V × Gs)
structure TabOK(X:Cx)(T:Ec)(fns:List FnE)(mks:List (Addr × Addr)):Prop where
 ec:EcOK X T
 fn:∀e∈fns,FnIs X.K e.a e.D∧ScOk e.D∧∀f,BaseIn X f->VRs X f e.D.dv e.dxs
 made:∀p∈mks,Mk X.K p.1 p.2
noncomputable def OvOK(X:Cx)(n:Nat)(ov:Ov):Prop:=∀g xs σ y σ',ov g xs σ=some (y,σ')->FnV X n g xs σ y σ'
noncomputable def CaOK(K:Kx)(fns:List FnE)(mks:List (Addr × Addr))(g:Value)(xs:List V)(σ:Gs)(p:V × Gs):Prop:=∀(X:Cx)(n:Nat)(T:Ec),TabOK X T fns mks->KxOK X n K->FnV X (n+1) g xs σ p.1 p.2
noncomputable def fnCP(K:Kx)(fns:List FnE)(mks:List (Addr × Addr))(k:Nat)(g:Value)(xs:List V)(σ:Gs):Option {p:V × Gs // CaOK K fns mks g xs σ p}:=match g with
 | .ref a=>onE (findE a fns) (λd hd=>onT (Nat.ble xs.length d.D.names.length) λh1=>onT (Nat.ble d.dxs.length d.D.names.length) λh2=>onT (Nat.ble d.D.names.length (xs.length+d.dxs.length)) λh3=>onPr (evSs (evS K d.W d.D.sc k) d.D.body ⟨varsOf d.D xs d.dxs,none,σ⟩) λfl st' he=>some ⟨(retOf fl,st'.σ),λX n T TK EK=>by
   have hm:=a0q hd
   obtain⟨t1,t2,t3⟩:=TK.fn _ hm.1
   have F:=fn_ok EK t1 t2 t3 k d.W h1 h2 h3 he
   rw[hm.2] at F
   exact F⟩)
  λx0=>onS (lookA a mks) λg hg=>onS (findE g fns) λd hd=>match hn:d.D.names with
   |z::ns=>onT (seq z "self") λh0=>onT (Nat.ble (xs.length+1) d.D.names.length) λh1=>onT (Nat.ble d.dxs.length d.D.names.length) λh2=>onT (Nat.ble d.D.names.length (xs.length+1+d.dxs.length)) λh3=>match he:evSs (evS K d.W d.D.sc k) d.D.body ⟨varsOf d.D (.any::xs) d.dxs,some ("self",.ins a []),σ⟩ with
    |some (.next,⟨vs,some (y,.ins C fs),σ'⟩)=>onT (seq y "self") λq1=>onT (Nat.beq C a) λq2=>some ⟨(.obj a fs,σ'),λX n T TK EK=>by
     cases(a0h _ _).mp h0
     cases(a0h _ _).mp q1
     cases Nat.eq_of_beq_eq_true q2
     have hm:=a0q hd
     obtain⟨t1,t2,t3⟩:=TK.fn _ hm.1
     have hmk:=TK.made _ (b0h hg)
     rw[←hm.2] at hmk
     exact mk_ok EK hmk t1 t2 t3 hn k d.W h1 h2 h3 he rfl⟩
    |_=>none
   |[]=>none
 |_=>none
noncomputable def callR(K:Kx)(fns:List FnE)(mks:List (Addr × Addr))(k:Nat):Ov:=λg xs σ=>valO (fnCP K fns mks k g xs σ)
noncomputable def lvl(T:Ec)(fns:List FnE)(mks:List (Addr × Addr))(ov:Ov)(k:Nat):Nat->Kx
 |0=>{T with C:=λg xs σ=>match ov g xs σ with
   |some r=>some r
   |none=>match biV g xs with
    |some y=>some (y,σ)
    |none=>none}
 |n+1=>{T with C:=λg xs σ=>match ov g xs σ with
   |some r=>some r
   |none=>match biV g xs with
    |some y=>some (y,σ)
    |none=>callR (lvl T fns mks ov k n) fns mks k g xs σ}
section
variable {X:Cx} {A:Around} {f f':FH} {s:Shared} {h h':Heap} {σ σ':Gs} {xs:List V} {y:V} {n m:Nat} {T:Ec} {fns:List FnE} {mks:List (Addr × Addr)} {ov:Ov} {K:Kx}
theorem Room.less(h:Room X A (n+1)):Room X A n:=by
 obtain⟨a,b,c⟩:=h
 exact⟨a,by lia,by lia⟩
theorem FnV.up{g:Value}(h:FnV X n g xs σ y σ'):FnV X (n+1) g xs σ y σ':=⟨h.1,λA f s vs hA S hv=>h.2 A f s vs hA.less S hv⟩
theorem OvOK.up(h:OvOK X n ov):OvOK X (n+1) ov:=λg xs σ y σ' e=>(h g xs σ y σ' e).up
theorem l0i{k:Nat}(TK:TabOK X T fns mks)(EK:KxOK X n K):OvOK X (n+1) (callR K fns mks k):=λg xs σ y σ' e=>a0t (o:=fnCP K fns mks k g xs σ) (z:=(y,σ')) e X n T TK EK
set_option tactic.hygienic true in
theorem b0z{k:Nat}(TK:TabOK X T fns mks):∀n,OvOK X m ov->KxOK X (m+n) (lvl T fns mks ov k n)
 |0,ho=>⟨TK.ec,λg xs σ y σ' e=>by
  unfold lvl at e
  dsimp only at e
  split at e
  ·rename_i r hr;cases e;exact ho _ _ _ _ _ hr
  ·split at e
   ·rename_i y' hy;cases e;exact e1j hy
   ·cases e⟩
 |n+1,ho=>⟨TK.ec,λg xs σ y σ' e=>by
  have IH:=b0z (k:=k) TK n ho
  unfold lvl at e
  dsimp only at e
  split at e
  ·rename_i r hr
   cases e
   have up:∀j,OvOK X (m+j) ov:=λj=>by
    induction j with
    |zero=>exact ho
    |succ j ih=>exact ih.up
   exact up (n+1) _ _ _ _ _ hr
  ·split at e
   ·rename_i y' hy;cases e;exact e1j hy
   ·exact l0i TK IH _ _ _ _ _ e⟩
end
end
section
open PySem PySem.W PySem.Calls PyProof.Rows
noncomputable def nthS:Nat->List Stmt->Stmt
 |0,s::_=>s
 |n+1,_::l=>nthS n l
 |_,[]=>.Pass default
noncomputable def X(n:Nat):Stmt:=nthS n PySem.Challenge.pw_sq0076_01.main.body
noncomputable def Y(n m:Nat):Stmt:=match X n with
 | .ClassDef _ _ _ b .. =>nthS m b
 |s=>s
noncomputable def fd(s:Stmt)(q:Str)(g:Nat)(cl:List (Str × Addr))(df kd dc pm:Value)(an:Option Addr)(cd ct:Value)(bi:Nat):Data:=match s with
 | .FunctionDef n a b _ _ _ sc .. =>.func {name:=n,qualname:=q,params:=a,body:=.stmts b,scope:=sc,globals:=g,closure:=cl,defaults:=df,kwdefaults:=kd,doc:=dc,pyModule:=pm,annotations:=an,code:=cd,closureTuple:=ct,builtins:=bi}
 |_=>.plain
noncomputable def cl(n:Str)(bs mro:List Value)(ns:Nat)(q:Str)(hd:Bool)(sl:List Str)(sub:List Value)(ab:Bool)(co:Option Bool)(de:Bool):Data:=
 .cls {name:=n,bases:=bs,mro:=mro,ns:=ns,qualname:=q,hasDict:=hd,slotNames:=sl,subclasses:=sub,abstract:=ab,collection:=co,hasDel:=de}
noncomputable def d(P:Params)(k:Str)(t:Nat)(v:Value):DictEntry:=⟨PyData.keyHash P k,.str k t,v⟩
noncomputable abbrev kS(x:Str)(t:Nat):Value:=.str x t
noncomputable abbrev kI(x:Int)(t:Nat):Value:=.int x t
noncomputable abbrev kR(a:Nat):Value:=.ref a
noncomputable def kN:Nat->List Str->List Value
 |_,[]=>[]
 |t,x::l=>.str x t::kN (t+1) l
noncomputable def p3:List (Int × Int × Nat)->List Value
 |[]=>[]
 |(x,y,a)::l=>.int x 0:: .int y 0:: .ref a::p3 l
noncomputable def ds(P:Params):List (Str × Nat × Value)->List DictEntry
 |[]=>[]
 |(k,t,v)::l=>d P k t v::ds P l
noncomputable def kO(t:String)(x:Data)(sl:Array (Option Value)):Obj:=⟨.type t,none,x,sl⟩
noncomputable def tp(l:List Value):Obj:=⟨.type "tuple",none,.seq l.toArray 0,#[]⟩
noncomputable def kF(l:List Value):Obj:=⟨.none,none,.fields l.toArray,#[]⟩
noncomputable def kD(P:Params)(l:List (Str × Nat × Value))(n:Nat):Obj:=⟨.type "dict",none,.dict (ds P l).toArray n,#[]⟩
noncomputable def kC(q q':Str)(t ln ac fl a:Nat)(b:Bool)(c:Nat)(x y z:Value)(t2:Nat):Obj:=⟨.type "code",none,.fields #[kS q t,kS q' (t+1),kS "/claim/cut.py" (t+2),.int (.ofNat ln) 0,.int (.ofNat ac) 0,.int 0 0,.int 0 0,.int (.ofNat fl) 0,.ref a,.bool b,.int 181 0,.ref c,.none,x,y,z,.int (.ofNat t2) 0,.int (.ofNat ln) 0,kS "/claim/cut.py" (t2+1)],#[]⟩
noncomputable def fo(s:Stmt)(q:Str):Obj:=⟨.none,none,fd s q 0 [] .none .none .none .none none .none .none 0,#[]⟩
noncomputable def fu(s:Stmt)(q:Str)(df:Value)(md:Str)(mt c:Nat):Obj:=⟨.type "function",none,fd s q 3 [] df .none .none (kS md mt) none (.ref c) .none 0,#[]⟩
noncomputable def fB(s:Stmt)(q q':Str)(a t ln ac:Nat)(vn:List Str)(df:Value)(md:Str)(mt:Nat):List Obj:=match vn with
 |[]=>[tp [],kF [],fo s q',kC q q' t ln ac 3 a true (a+1) .none .none (kR (a+2)) (t+3),fu s q' df md mt (a+3)]
 |x::l=>[tp [],kF [],tp (kN (t+3) (x::l)),tp [],fo s q',kC q q' t ln ac 3 a true (a+1) (kR (a+2)) (kR (a+3)) (kR (a+4)) (t+3+(x::l).length),fu s q' df md mt (a+5)]
noncomputable def kfr(c e:Nat)(md:Str)(mt:Nat):Obj:=kO "frame" .plain #[some (kR c),some (kR 3),some (kR e),none,some (kS md mt),none,some (kR 0)]
noncomputable def tlO:List Value:=[.type "object"]
noncomputable def tlV:List Value:=[.type "ValueError",.type "Exception",.type "BaseException",.type "object"]
noncomputable def kT(n:Str)(me:Nat)(bs mro:List Value)(ns:Nat)(sub:List Value)(s0:Option Value)(t1 t2:Nat)(nw:String):Obj:=kO "type" (cl n bs (kR me::mro) ns n true [] sub false none false) #[s0,none,some (kS n t1),some (kS n t2),some (.builtin nw),some (.bool true)]
noncomputable def kP:Obj:=kO "builtin_function_or_method" (.fields #[.builtin "type.__prepare__",.type "type"]) #[]
noncomputable def kB(a:Nat):Obj:=kO "builtin_function_or_method" (.fields #[.builtin "object.__init_subclass__",.ref a]) #[]
noncomputable def kU(a:Nat):Obj:=kO "super" (.fields #[.ref a,.ref a,.ref a]) #[]
noncomputable def kG(n:Str)(t a:Nat)(g:String)(z:Value):Obj:=kO "getset_descriptor" (.fields #[kS n t,.ref a,.builtin g,z]) #[]
noncomputable def puts:BT->Nat->List Obj->BT
 |t,_,[]=>t
 |t,n,o::l=>puts (t.ins n o) (n+1) l
noncomputable def wr(t:BT)(a:Nat)(o:Obj):BT:=t.set a λ_=>o
noncomputable abbrev ke(k:Str)(t:Nat)(v:Value):Str × Nat × Value:=(k,t,v)
noncomputable def gl(P:Params)(nm:Value):List DictEntry:=ds P [ke "__name__" 165 nm,ke "__doc__" 166 .none,ke "__package__" 167 .none,ke "__loader__" 168 (.builtin "__main__.__loader__#opaque"),ke "__spec__" 169 .none,ke "__annotations__" 170 (kR 6),ke "__builtins__" 171 (kR 4),ke "__file__" 173 (kS "/claim/cut.py" 172),ke "__cached__" 174 .none,ke "_wall" 193 (kR 21),ke "PageError" 223 (kR 39),ke "BadArgument" 239 (kR 52),ke "Overflow" 255 (kR 64),ke "BadCharacter" 271 (kR 76),ke "BadFont" 287 (kR 88),ke "TooDeep" 303 (kR 100),ke "TooMuch" 319 (kR 112),ke "UNITY" 323 (kI 65536 322),ke "MAX_DIMEN" 329 (kI 1073741823 328),ke "MAX_NUMBER" 335 (kI 2147483647 334),ke "NORMAL" 340 (kI 0 336),ke "FIL" 341 (kI 1 337),ke "FILL" 342 (kI 2 338),ke "FILLL" 343 (kI 3 339),ke "is_whole" 352 (kR 125),ke "check_whole" 359 (kR 132),ke "check_number" 366 (kR 139),ke "check_dimen" 373 (kR 146),ke "rounded" 381 (kR 153),ke "reading" 389 (kR 160),ke "decimal_text" 402 (kR 167),ke "order_text" 409 (kR 174),ke "part_text" 418 (kR 181),ke "Glue" 516 (kR 249),ke "top_order" 524 (kR 260),ke "Totals" 591 (kR 312),ke "CHAR" 602 (kI 0 594),ke "LIGATURE" 603 (kI 1 595),ke "HBOX" 604 (kI 2 596),ke "VBOX" 605 (kI 3 597),ke "RULE" 606 (kI 4 598),ke "KERN" 607 (kI 5 599),ke "GLUE" 608 (kI 6 600),ke "PENALTY" 609 (kI 7 601),ke "DISC" 617 (kI 8 610),ke "MARK" 618 (kI 9 611),ke "INSERT" 619 (kI 10 612),ke "ADJUST" 620 (kI 11 613),ke "MATH_nodes" 621 (kI 12 614),ke "SPECIAL" 622 (kI 13 615),ke "UNSET" 623 (kI 14 616),ke "NATURAL" 627 (kI 0 624),ke "STRETCHED" 628 (kI 1 625),ke "SHRUNK" 629 (kI 2 626),ke "FONT_KERN" 634 (kI 0 630),ke "EXPLICIT" 635 (kI 1 631),ke "ACCENT_KERN" 636 (kI 2 632),ke "MU_KERN" 637 (kI 3 633),ke "PLAIN" 645 (kI 0 638),ke "ALEADERS" 646 (kI 1 639),ke "CLEADERS" 647 (kI 2 640),ke "XLEADERS" 648 (kI 3 641),ke "MU_SKIP" 649 (kI 4 642),ke "NONSCRIPT" 650 (kI 5 643),ke "NAMED" 651 (kI 100 644),ke "FOR_DEVICE" 656 (kI 0 652),ke "WRITING" 657 (kI 1 653),ke "OPENING" 658 (kI 2 654),ke "CLOSING" 659 (kI 3 655),ke "DEEPEST" 661 (kI 60 660),ke "check_code" 668 (kR 347),ke "check_short" 676 (kR 354),ke "Char" 708 (kR 371),ke "Ligature" 740 (kR 391),ke "Box" 781 (kR 412),ke "Rule" 816 (kR 433),ke "Kern" 848 (kR 454),ke "Skip" 882 (kR 476),ke "Penalty" 912 (kR 497),ke "Disc" 946 (kR 518),ke "Mark" 976 (kR 539),ke "Insert" 1016 (kR 560),ke "Adjust" 1046 (kR 581),ke "MathEdge" 1078 (kR 602),ke "Special" 1110 (kR 623),ke "Write" 1143 (kR 644),ke "OpenOut" 1176 (kR 665),ke "CloseOut" 1207 (kR 686),ke "Unset" 1249 (kR 708),ke "check_depth" 1256 (kR 719),ke "described_special" 1262 (kR 724),ke "described_rest" 1273 (kR 731),ke "described" 1280 (kR 737),ke "described_list" 1287 (kR 743),ke "ESCAPE" 1298 (kI 0 1290),ke "BEGIN" 1299 (kI 1 1291),ke "END" 1300 (kI 2 1292),ke "MATH_tokens" 1301 (kI 3 1293),ke "TAB" 1302 (kI 4 1294),ke "RETURN" 1303 (kI 5 1295),ke "PARAMETER" 1304 (kI 6 1296),ke "UP" 1305 (kI 7 1297),ke "DOWN" 1314 (kI 8 1306),ke "IGNORED" 1315 (kI 9 1307),ke "SPACE" 1316 (kI 10 1308),ke "LETTER" 1317 (kI 11 1309),ke "OTHER" 1318 (kI 12 1310),ke "ACTIVE" 1319 (kI 13 1311),ke "COMMENT" 1320 (kI 14 1312),ke "INVALID" 1321 (kI 15 1313),ke "CONTROL" 1327 (kI 0 1322),ke "OUT" 1328 (kI 5 1323),ke "MATCH" 1329 (kI 9 1324),ke "FROZEN" 1330 (kI 14 1325),ke "NOT_EXPANDED" 1331 (kI 15 1326),ke "MOST_NAMES" 1335 (kI 1048576 1334),ke "LEAST_CODES" 1352 (kR 756),ke "GREATEST_CODES" 1370 (kR 757),ke "END_MARK_TEXTS" 1376 (kR 758),ke "SPECIAL_CATEGORIES" 1405 (kR 759),ke "is_token" 1412 (kR 766),ke "check_text" 1420 (kR 773),ke "Names" 1483 (kR 819),ke "plain_category" 1490 (kR 830),ke "is_letter" 1498 (kR 838),ke "escape_text" 1505 (kR 845),ke "name_text" 1515 (kR 853),ke "end_mark_text" 1522 (kR 860),ke "show_token" 1536 (kR 868),ke "show_tokens" 1550 (kR 876),ke "MOST_DEPTH" 1554 (kI 60 1553),ke "MOST_BREADTH" 1556 (kI 10000 1555),ke "DEPTH" 1559 (kI 20 1557),ke "BREADTH" 1560 (kI 100 1558),ke "MOST_RATIO" 1562 (kI 20000 1561),ke "MOST_STREAM" 1564 (kI 15 1563),ke "CUT" 1566 (kS " []" 1565),ke "SKIP_NAMES" 1585 (kR 881),ke "Showing" 1623 (kR 898),ke "octet_text" 1631 (kR 909),ke "font_text" 1639 (kR 916),ke "rule_size" 1646 (kR 923),ke "sizes_text" 1653 (kR 930),ke "set_text" 1663 (kR 937),ke "box_text" 1672 (kR 944),ke "cell_text" 1684 (kR 951),ke "skip_name" 1692 (kR 958),ke "skip_text" 1703 (kR 965),ke "kern_text" 1713 (kR 972),ke "ligature_text" 1719 (kR 977),ke "stream_text" 1726 (kR 984),ke "tokens_text" 1734 (kR 991),ke "special_text" 1740 (kR 996),ke "insert_text" 1749 (kR 1003),ke "edge_text" 1757 (kR 1010),ke "disc_text" 1765 (kR 1017),ke "node_text" 1774 (kR 1024),ke "lists_of" 1782 (kR 1031),ke "node_lines" 1794 (kR 1038),ke "list_lines" 1806 (kR 1045),ke "box_lines" 1820 (kR 1053),ke "EDGE" 1824 (kI 256 1823),ke "MOST_FONTS" 1826 (kI 255 1825),ke "MOST_PARAMS" 1828 (kI 64 1827),ke "MOST_SIZE" 1834 (kI 134217727 1833),ke "PLAIN_SORT" 1839 (kI 0 1835),ke "PROGRAM_SORT" 1840 (kI 1 1836),ke "LARGER_SORT" 1841 (kI 2 1837),ke "PIECES_SORT" 1842 (kI 3 1838),ke "STOP_SKIP" 1846 (kI 128 1843),ke "KERN_OP" 1847 (kI 128 1844),ke "LEAD" 1848 (kI 255 1845),ke "NO_CHARACTER" 1855 (kR 1062),ke "LETTERS" 1857 (kS "abcdefghjklmnopqrstuvwxyz" 1856),ke "SMALL_PARAMS" 1865 (kR 1063),ke "is_size" 1872 (kR 1070),ke "check_sizes" 1880 (kR 1077),ke "check_pieces" 1890 (kR 1084),ke "check_chars" 1902 (kR 1091),ke "check_larger" 1912 (kR 1098),ke "check_program" 1930 (kR 1105),ke "left_start" 1941 (kR 1112),ke "Font" 2072 (kR 1202),ke "font_name" 2081 (kR 1213),ke "font_of_rows" 2095 (kR 1223),ke "_law_orders" 2103 (kR 1230),ke "_law_names" 2109 (kR 1237),ke "_law_heap" 2118 (kR 1244),ke "_law_take" 2127 (kR 1251),ke "_law_half" 2134 (kR 1258),ke "_law_number" 2141 (kR 1265),ke "_law_flow" 2155 (kR 1272),ke "_law_sizes" 2161 (kR 1277),ke "_law_box" 2167 (kR 1282),ke "_law_cell" 2173 (kR 1287),ke "_law_letter" 2188 (kR 1294),ke "_law_done" 2201 (kR 1301),ke "_law_skip" 2216 (kR 1308),ke "_law_rule" 2222 (kR 1313),ke "_law_small" 2233 (kR 1320),ke "_law_part" 2239 (kR 1325),ke "_law_list" 2245 (kR 1330),ke "_law_rows" 2251 (kR 1335),ke "law" 2265 (kR 1342)]
noncomputable def go3(P:Params)(nm:Value)(n:Nat):Obj:=⟨.type "dict",none,.dict ⟨(gl P nm).take n⟩ n,#[]⟩
noncomputable def pl:List Value:=p3 [(1,0,20),(5,0,27),(9,0,48),(11,0,60),(13,0,72),(15,0,84),(17,0,96),(19,0,108),(26,0,124),(28,0,131),(32,0,138),(36,0,145),(40,0,152),(46,0,159),(48,0,166),(59,0,173),(61,0,180),(63,0,187),(99,0,259),(104,0,266),(133,0,346),(137,0,353),(142,0,360),(148,0,381),(157,0,401),(171,0,422),(181,0,443),(189,0,464),(202,0,486),(207,0,507),(214,0,528),(219,0,549),(231,0,570),(236,0,591),(242,0,612),(253,0,633),(260,0,654),(269,0,675),(275,0,696),(288,0,718),(291,0,723),(297,0,730),(312,0,736),(335,0,742),(346,0,765),(350,0,772),(356,0,779),(387,0,829),(391,0,837),(395,0,844),(399,0,852),(404,0,859),(408,0,867),(424,0,875),(440,0,887),(451,0,908),(460,0,915),(462,0,922),(464,0,929),(466,0,936),(474,0,943),(477,0,950),(488,0,957),(491,0,964),(501,0,971),(507,0,976),(510,0,983),(514,0,990),(516,0,995),(524,0,1002),(527,0,1009),(529,0,1016),(531,0,1023),(562,0,1030),(569,0,1037),(577,0,1044),(587,0,1052),(600,0,1069),(602,0,1076),(606,0,1083),(612,0,1090),(624,0,1097),(632,0,1104),(651,0,1111),(656,0,1118),(713,0,1212),(720,0,1222),(730,0,1229),(732,0,1236),(734,0,1243),(739,0,1250),(746,0,1257),(748,0,1264),(750,0,1271),(758,0,1276),(761,0,1281),(771,0,1286),(780,0,1293),(788,0,1300),(799,0,1307),(809,0,1312),(814,0,1319),(822,0,1324),(845,0,1329),(847,0,1334),(859,0,1341)]
noncomputable def po12(n:Nat):Obj:=⟨.none,none,.fields ⟨pl.take n⟩,#[]⟩
noncomputable def T0(P:Params):BT:=puts .nil 0 [boot_o_0 P,boot_o_1 P,boot_o_2 P,boot_o_3 P,boot_o_4 P,boot_o_5 P,boot_o_6 P,boot_o_7 P,boot_o_8 P,boot_o_9 P,boot_o_10 P]
noncomputable def L1(P:Params):List Obj:=[tp [],(po12 0),kC "<module>" "<module>" 182 1 0 0 11 false 12 .none .none .none 185,kfr 13 3 "__main__" 164]
noncomputable def T1(P:Params):BT:=puts (T0 P) 11 (L1 P)
noncomputable def lf:Life:={}
noncomputable def L2(P:Params):List Obj:=fB (X 0) "_wall" "_wall" 15 187 1 1 ["k"] .none "__main__" 164++[tp [.type "ValueError"],kP,kD P [("__module__",203,kS "gluepage.errors" 194),("__qualname__",205,kS "PageError" 204),("__firstlineno__",207,kI 5 206),("__init__",216,kR 36),("__static_attributes__",218,kR 37)] 5,tp [],kF [kI 7 0,kI 4 0,kR 35],kC "PageError" "PageError" 198 5 0 0 25 false 26 .none .none .none 201,kfr 27 24 "gluepage.errors" 194,tp (kN 208 [""])]++fB (Y 2 0) "__init__" "PageError.__init__" 30 209 7 2 ["self","reason"] (kR 29) "gluepage.errors" 194++[tp (kN 217 ["reason"]),kD P [("__module__",203,kS "gluepage.errors" 194),("__firstlineno__",207,kI 5 206),("__init__",216,kR 36),("__static_attributes__",218,kR 37),("__weakref__",220,kR 40),("__doc__",221,.none)] 3,kT "PageError" 39 [.type "ValueError"] tlV 38 [] (some (kR 22)) 196 204 "ValueError.__new__",kG "__weakref__" 219 39 "ExceptionGroup.__weakref__" .none,kU 39,kB 39]
noncomputable def T2(P:Params):BT:=puts (wr (wr (T1 P) 3 (go3 P (kS "gluepage.errors" 194) 11)) 12 (po12 6)) 15 (L2 P)
noncomputable def L3(P:Params):List Obj:=[tp [kR 39],kP,kD P [("__module__",231,kS "gluepage.errors" 194),("__qualname__",233,kS "BadArgument" 232),("__firstlineno__",235,kI 9 234),("__static_attributes__",236,kR 50)] 4,tp [],kF [],kC "BadArgument" "BadArgument" 226 9 0 0 46 false 47 .none .none .none 229,kfr 48 45 "gluepage.errors" 194,tp [],kD P [("__module__",231,kS "gluepage.errors" 194),("__firstlineno__",235,kI 9 234),("__static_attributes__",236,kR 50),("__doc__",237,.none)] 2,kT "BadArgument" 52 [kR 39] (kR 39::tlV) 51 [] (some (kR 43)) 224 232 "ValueError.__new__",kU 52,kB 52]
noncomputable def T3(P:Params):BT:=puts (wr (wr (wr (T2 P) 3 (go3 P (kS "gluepage.errors" 194) 12)) 12 (po12 9)) 39 (kT "PageError" 39 [.type "ValueError"] tlV 38 [kR 52] (some (kR 22)) 196 204 "ValueError.__new__")) 43 (L3 P)
noncomputable def L4(P:Params):List Obj:=[tp [kR 39],kP,kD P [("__module__",247,kS "gluepage.errors" 194),("__qualname__",249,kS "Overflow" 248),("__firstlineno__",251,kI 11 250),("__static_attributes__",252,kR 62)] 4,tp [],kF [],kC "Overflow" "Overflow" 242 11 0 0 58 false 59 .none .none .none 245,kfr 60 57 "gluepage.errors" 194,tp [],kD P [("__module__",247,kS "gluepage.errors" 194),("__firstlineno__",251,kI 11 250),("__static_attributes__",252,kR 62),("__doc__",253,.none)] 2,kT "Overflow" 64 [kR 39] (kR 39::tlV) 63 [] (some (kR 55)) 240 248 "ValueError.__new__",kU 64,kB 64]
noncomputable def T4(P:Params):BT:=puts (wr (wr (wr (T3 P) 3 (go3 P (kS "gluepage.errors" 194) 13)) 12 (po12 12)) 39 (kT "PageError" 39 [.type "ValueError"] tlV 38 [kR 52,kR 64] (some (kR 22)) 196 204 "ValueError.__new__")) 55 (L4 P)
noncomputable def L5(P:Params):List Obj:=[tp [kR 39],kP,kD P [("__module__",263,kS "gluepage.errors" 194),("__qualname__",265,kS "BadCharacter" 264),("__firstlineno__",267,kI 13 266),("__static_attributes__",268,kR 74)] 4,tp [],kF [],kC "BadCharacter" "BadCharacter" 258 13 0 0 70 false 71 .none .none .none 261,kfr 72 69 "gluepage.errors" 194,tp [],kD P [("__module__",263,kS "gluepage.errors" 194),("__firstlineno__",267,kI 13 266),("__static_attributes__",268,kR 74),("__doc__",269,.none)] 2,kT "BadCharacter" 76 [kR 39] (kR 39::tlV) 75 [] (some (kR 67)) 256 264 "ValueError.__new__",kU 76,kB 76]
noncomputable def T5(P:Params):BT:=puts (wr (wr (wr (T4 P) 3 (go3 P (kS "gluepage.errors" 194) 14)) 12 (po12 15)) 39 (kT "PageError" 39 [.type "ValueError"] tlV 38 [kR 52,kR 64,kR 76] (some (kR 22)) 196 204 "ValueError.__new__")) 67 (L5 P)
noncomputable def L6(P:Params):List Obj:=[tp [kR 39],kP,kD P [("__module__",279,kS "gluepage.errors" 194),("__qualname__",281,kS "BadFont" 280),("__firstlineno__",283,kI 15 282),("__static_attributes__",284,kR 86)] 4,tp [],kF [],kC "BadFont" "BadFont" 274 15 0 0 82 false 83 .none .none .none 277,kfr 84 81 "gluepage.errors" 194,tp [],kD P [("__module__",279,kS "gluepage.errors" 194),("__firstlineno__",283,kI 15 282),("__static_attributes__",284,kR 86),("__doc__",285,.none)] 2,kT "BadFont" 88 [kR 39] (kR 39::tlV) 87 [] (some (kR 79)) 272 280 "ValueError.__new__",kU 88,kB 88]
noncomputable def T6(P:Params):BT:=puts (wr (wr (wr (T5 P) 3 (go3 P (kS "gluepage.errors" 194) 15)) 12 (po12 18)) 39 (kT "PageError" 39 [.type "ValueError"] tlV 38 [kR 52,kR 64,kR 76,kR 88] (some (kR 22)) 196 204 "ValueError.__new__")) 79 (L6 P)
noncomputable def L7(P:Params):List Obj:=[tp [kR 39],kP,kD P [("__module__",295,kS "gluepage.errors" 194),("__qualname__",297,kS "TooDeep" 296),("__firstlineno__",299,kI 17 298),("__static_attributes__",300,kR 98)] 4,tp [],kF [],kC "TooDeep" "TooDeep" 290 17 0 0 94 false 95 .none .none .none 293,kfr 96 93 "gluepage.errors" 194,tp [],kD P [("__module__",295,kS "gluepage.errors" 194),("__firstlineno__",299,kI 17 298),("__static_attributes__",300,kR 98),("__doc__",301,.none)] 2,kT "TooDeep" 100 [kR 39] (kR 39::tlV) 99 [] (some (kR 91)) 288 296 "ValueError.__new__",kU 100,kB 100]
noncomputable def T7(P:Params):BT:=puts (wr (wr (wr (T6 P) 3 (go3 P (kS "gluepage.errors" 194) 16)) 12 (po12 21)) 39 (kT "PageError" 39 [.type "ValueError"] tlV 38 [kR 52,kR 64,kR 76,kR 88,kR 100] (some (kR 22)) 196 204 "ValueError.__new__")) 91 (L7 P)
noncomputable def L8(P:Params):List Obj:=[tp [kR 39],kP,kD P [("__module__",311,kS "gluepage.errors" 194),("__qualname__",313,kS "TooMuch" 312),("__firstlineno__",315,kI 19 314),("__static_attributes__",316,kR 110)] 4,tp [],kF [],kC "TooMuch" "TooMuch" 306 19 0 0 106 false 107 .none .none .none 309,kfr 108 105 "gluepage.errors" 194,tp [],kD P [("__module__",311,kS "gluepage.errors" 194),("__firstlineno__",315,kI 19 314),("__static_attributes__",316,kR 110),("__doc__",317,.none)] 2,kT "TooMuch" 112 [kR 39] (kR 39::tlV) 111 [] (some (kR 103)) 304 312 "ValueError.__new__",kU 112,kB 112]
noncomputable def T8(P:Params):BT:=puts (wr (wr (wr (T7 P) 3 (go3 P (kS "gluepage.scaled" 320) 20)) 12 (po12 24)) 39 (kT "PageError" 39 [.type "ValueError"] tlV 38 [kR 52,kR 64,kR 76,kR 88,kR 100,kR 112] (some (kR 22)) 196 204 "ValueError.__new__")) 103 (L8 P)
noncomputable def L9(P:Params):List Obj:=[tp [kI 0 336,kI 1 337,kI 2 338,kI 3 339],kO "tuple_iterator" (.fields #[.none,kI 4 0]) #[],tp [],kO "StopIteration" (.fields #[kR 117,.none,.none,.none,.bool false,.none]) #[]]
noncomputable def T9(P:Params):BT:=puts (wr (T8 P) 3 (go3 P (kS "gluepage.scaled" 320) 24)) 115 (L9 P)
noncomputable def L10(P:Params):List Obj:=fB (X 14) "is_whole" "is_whole" 119 344 26 3 ["value","low","high"] .none "gluepage.scaled" 320++fB (X 15) "check_whole" "check_whole" 126 353 28 1 ["value"] .none "gluepage.scaled" 320++fB (X 16) "check_number" "check_number" 133 360 32 1 ["value"] .none "gluepage.scaled" 320++fB (X 17) "check_dimen" "check_dimen" 140 367 36 1 ["value"] .none "gluepage.scaled" 320++fB (X 18) "rounded" "rounded" 147 374 40 2 ["number","by"] .none "gluepage.scaled" 320++fB (X 19) "reading" "reading" 154 382 46 2 ["whole","scale"] .none "gluepage.scaled" 320++fB (X 20) "decimal_text" "decimal_text" 161 390 48 1 ["value","sign","points","part","scale","near","places"] .none "gluepage.scaled" 320++fB (X 21) "order_text" "order_text" 168 403 59 1 ["order"] .none "gluepage.scaled" 320++fB (X 22) "part_text" "part_text" 175 410 61 3 ["value","order","unit"] .none "gluepage.scaled" 320
noncomputable def T10(P:Params):BT:=puts (wr (wr (T9 P) 3 (go3 P (kS "gluepage.scaled" 320) 33)) 12 (po12 51)) 119 (L10 P)
noncomputable def L11(P:Params):List Obj:=[tp [],kP,kD P [("__module__",426,kS "gluepage.scaled" 320),("__qualname__",428,kS "Glue" 427),("__firstlineno__",430,kI 63 429),("__init__",447,kR 196),("parts",454,kR 203),("same",462,kR 210),("added",470,kR 217),("times",478,kR 224),("over",486,kR 231),("negated",493,kR 238),("text",503,kR 246),("__static_attributes__",509,kR 247)] 12,tp [],kF [kI 65 0,kI 4 0,kR 195,kI 74 0,kI 4 0,kR 202,kI 77 0,kI 4 0,kR 209,kI 80 0,kI 4 0,kR 216,kI 83 0,kI 4 0,kR 223,kI 86 0,kI 4 0,kR 230,kI 89 0,kI 4 0,kR 237,kI 92 0,kI 4 0,kR 245],kC "Glue" "Glue" 421 63 0 0 185 false 186 .none .none .none 424,kfr 187 184 "gluepage.scaled" 320,tp [kI 0 431,kI 0 432,kI 0 433,kI 0 434,kI 0 435]]++fB (Y 23 0) "__init__" "Glue.__init__" 190 436 65 6 ["self","width","stretch","stretch_order","shrink","shrink_order"] (kR 189) "gluepage.scaled" 320++fB (Y 23 1) "parts" "Glue.parts" 197 448 74 1 ["self"] .none "gluepage.scaled" 320++fB (Y 23 2) "same" "Glue.same" 204 455 77 2 ["self","other"] .none "gluepage.scaled" 320++fB (Y 23 3) "added" "Glue.added" 211 463 80 2 ["self","other"] .none "gluepage.scaled" 320++fB (Y 23 4) "times" "Glue.times" 218 471 83 2 ["self","count"] .none "gluepage.scaled" 320++fB (Y 23 5) "over" "Glue.over" 225 479 86 2 ["self","by"] .none "gluepage.scaled" 320++fB (Y 23 6) "negated" "Glue.negated" 232 487 89 1 ["self"] .none "gluepage.scaled" 320++[tp (kN 494 ["pt"])]++fB (Y 23 7) "text" "Glue.text" 240 495 92 2 ["self","unit","found"] (kR 239) "gluepage.scaled" 320++[tp (kN 504 ["shrink","shrink_order","stretch","stretch_order","width"]),kD P [("__module__",426,kS "gluepage.scaled" 320),("__firstlineno__",430,kI 63 429),("__init__",447,kR 196),("parts",454,kR 203),("same",462,kR 210),("added",470,kR 217),("times",478,kR 224),("over",486,kR 231),("negated",493,kR 238),("text",503,kR 246),("__static_attributes__",509,kR 247),("__dict__",511,kR 250),("__weakref__",513,kR 251),("__doc__",514,.none)] 4,kT "Glue" 249 [.type "object"] tlO 248 [] none 419 427 "object.__new__",kG "__dict__" 510 249 "function.__dict__" (.builtin "function.__dict__#set"),kG "__weakref__" 512 249 "ExceptionGroup.__weakref__" .none,kU 249,kB 249]
noncomputable def T11(P:Params):BT:=puts (wr (wr (T10 P) 3 (go3 P (kS "gluepage.scaled" 320) 34)) 12 (po12 54)) 182 (L11 P)
noncomputable def L12(P:Params):List Obj:=fB (X 24) "top_order" "top_order" 254 517 99 1 ["sums","order"] .none "gluepage.scaled" 320
noncomputable def T12(P:Params):BT:=puts (wr (wr (T11 P) 3 (go3 P (kS "gluepage.scaled" 320) 35)) 12 (po12 57)) 254 (L12 P)
noncomputable def L13(P:Params):List Obj:=[tp [],kP,kD P [("__module__",532,kS "gluepage.scaled" 320),("__qualname__",534,kS "Totals" 533),("__firstlineno__",536,kI 104 535),("__init__",543,kR 274),("add",551,kR 281),("widen",559,kR 288),("stretch_top",566,kR 295),("shrink_top",573,kR 302),("copy",580,kR 309),("__static_attributes__",584,kR 310)] 10,tp [],kF [kI 106 0,kI 4 0,kR 273,kI 111 0,kI 4 0,kR 280,kI 114 0,kI 4 0,kR 287,kI 117 0,kI 4 0,kR 294,kI 120 0,kI 4 0,kR 301,kI 123 0,kI 4 0,kR 308],kC "Totals" "Totals" 527 104 0 0 264 false 265 .none .none .none 530,kfr 266 263 "gluepage.scaled" 320]++fB (Y 25 0) "__init__" "Totals.__init__" 268 537 106 1 ["self"] .none "gluepage.scaled" 320++fB (Y 25 1) "add" "Totals.add" 275 544 111 2 ["self","glue"] .none "gluepage.scaled" 320++fB (Y 25 2) "widen" "Totals.widen" 282 552 114 2 ["self","width"] .none "gluepage.scaled" 320++fB (Y 25 3) "stretch_top" "Totals.stretch_top" 289 560 117 1 ["self"] .none "gluepage.scaled" 320++fB (Y 25 4) "shrink_top" "Totals.shrink_top" 296 567 120 1 ["self"] .none "gluepage.scaled" 320++fB (Y 25 5) "copy" "Totals.copy" 303 574 123 1 ["self"] .none "gluepage.scaled" 320++[tp (kN 581 ["natural","shrink","stretch"]),kD P [("__module__",532,kS "gluepage.scaled" 320),("__firstlineno__",536,kI 104 535),("__init__",543,kR 274),("add",551,kR 281),("widen",559,kR 288),("stretch_top",566,kR 295),("shrink_top",573,kR 302),("copy",580,kR 309),("__static_attributes__",584,kR 310),("__dict__",586,kR 313),("__weakref__",588,kR 314),("__doc__",589,.none)] 4,kT "Totals" 312 [.type "object"] tlO 311 [] none 525 533 "object.__new__",kG "__dict__" 585 312 "function.__dict__" (.builtin "function.__dict__#set"),kG "__weakref__" 587 312 "ExceptionGroup.__weakref__" .none,kU 312,kB 312]
noncomputable def T13(P:Params):BT:=puts (wr (wr (T12 P) 3 (go3 P (kS "gluepage.nodes" 592) 36)) 12 (po12 60)) 261 (L13 P)
noncomputable def L14(P:Params):List Obj:=[tp [kI 0 594,kI 1 595,kI 2 596,kI 3 597,kI 4 598,kI 5 599,kI 6 600,kI 7 601],kO "tuple_iterator" (.fields #[.none,kI 8 0]) #[],tp [],kO "StopIteration" (.fields #[kR 319,.none,.none,.none,.bool false,.none]) #[],tp [kI 8 610,kI 9 611,kI 10 612,kI 11 613,kI 12 614,kI 13 615,kI 14 616],kO "tuple_iterator" (.fields #[.none,kI 7 0]) #[],tp [],kO "StopIteration" (.fields #[kR 323,.none,.none,.none,.bool false,.none]) #[]]
noncomputable def T14(P:Params):BT:=puts (wr (T13 P) 3 (go3 P (kS "gluepage.nodes" 592) 51)) 317 (L14 P)
noncomputable def L15(P:Params):List Obj:=[tp [kI 0 624,kI 1 625,kI 2 626],kO "tuple_iterator" (.fields #[.none,kI 3 0]) #[],tp [],kO "StopIteration" (.fields #[kR 327,.none,.none,.none,.bool false,.none]) #[],tp [kI 0 630,kI 1 631,kI 2 632,kI 3 633],kO "tuple_iterator" (.fields #[.none,kI 4 0]) #[],tp [],kO "StopIteration" (.fields #[kR 331,.none,.none,.none,.bool false,.none]) #[],tp [kI 0 638,kI 1 639,kI 2 640,kI 3 641,kI 4 642,kI 5 643,kI 100 644],kO "tuple_iterator" (.fields #[.none,kI 7 0]) #[],tp [],kO "StopIteration" (.fields #[kR 335,.none,.none,.none,.bool false,.none]) #[]]
noncomputable def T15(P:Params):BT:=puts (wr (T14 P) 3 (go3 P (kS "gluepage.nodes" 592) 65)) 325 (L15 P)
noncomputable def L16(P:Params):List Obj:=[tp [kI 0 652,kI 1 653,kI 2 654,kI 3 655],kO "tuple_iterator" (.fields #[.none,kI 4 0]) #[],tp [],kO "StopIteration" (.fields #[kR 339,.none,.none,.none,.bool false,.none]) #[]]
noncomputable def T16(P:Params):BT:=puts (wr (T15 P) 3 (go3 P (kS "gluepage.nodes" 592) 69)) 337 (L16 P)
noncomputable def L17(P:Params):List Obj:=fB (X 34) "check_code" "check_code" 341 662 133 1 ["code"] .none "gluepage.nodes" 592++fB (X 35) "check_short" "check_short" 348 669 137 1 ["items","node"] .none "gluepage.nodes" 592++[tp [],kP,kD P [("__module__",684,kS "gluepage.nodes" 592),("__qualname__",686,kS "Char" 685),("__firstlineno__",688,kI 142 687),("kind",689,kI 0 594),("__init__",698,kR 368),("__static_attributes__",701,kR 369)] 6,tp [],kF [kI 145 0,kI 4 0,kR 367],kC "Char" "Char" 679 142 0 0 358 false 359 .none .none .none 682,kfr 360 357 "gluepage.nodes" 592]++fB (Y 36 1) "__init__" "Char.__init__" 362 690 145 3 ["self","font","code"] .none "gluepage.nodes" 592++[tp (kN 699 ["code","font"]),kD P [("__module__",684,kS "gluepage.nodes" 592),("__firstlineno__",688,kI 142 687),("kind",689,kI 0 594),("__init__",698,kR 368),("__static_attributes__",701,kR 369),("__dict__",703,kR 372),("__weakref__",705,kR 373),("__doc__",706,.none)] 4,kT "Char" 371 [.type "object"] tlO 370 [] none 677 685 "object.__new__",kG "__dict__" 702 371 "function.__dict__" (.builtin "function.__dict__#set"),kG "__weakref__" 704 371 "ExceptionGroup.__weakref__" .none,kU 371,kB 371]
noncomputable def T17(P:Params):BT:=puts (wr (wr (T16 P) 3 (go3 P (kS "gluepage.nodes" 592) 73)) 12 (po12 69)) 341 (L17 P)
noncomputable def L18(P:Params):List Obj:=[tp [],kP,kD P [("__module__",716,kS "gluepage.nodes" 592),("__qualname__",718,kS "Ligature" 717),("__firstlineno__",720,kI 148 719),("kind",721,kI 1 595),("__init__",727,kR 388),("__static_attributes__",733,kR 389)] 6,tp [],kF [kI 151 0,kI 4 0,kR 387],kC "Ligature" "Ligature" 711 148 0 0 379 false 380 .none .none .none 714,kfr 381 378 "gluepage.nodes" 592,tp [.bool false,.bool false]]++fB (Y 37 1) "__init__" "Ligature.__init__" 384 722 151 6 [] (kR 383) "gluepage.nodes" 592++[tp (kN 728 ["code","font","left","parts","right"]),kD P [("__module__",716,kS "gluepage.nodes" 592),("__firstlineno__",720,kI 148 719),("kind",721,kI 1 595),("__init__",727,kR 388),("__static_attributes__",733,kR 389),("__dict__",735,kR 392),("__weakref__",737,kR 393),("__doc__",738,.none)] 4,kT "Ligature" 391 [.type "object"] tlO 390 [] none 709 717 "object.__new__",kG "__dict__" 734 391 "function.__dict__" (.builtin "function.__dict__#set"),kG "__weakref__" 736 391 "ExceptionGroup.__weakref__" .none,kU 391,kB 391]
noncomputable def T18(P:Params):BT:=puts (wr (wr (T17 P) 3 (go3 P (kS "gluepage.nodes" 592) 74)) 12 (po12 72)) 376 (L18 P)
noncomputable def L19(P:Params):List Obj:=[tp [],kP,kD P [("__module__",748,kS "gluepage.nodes" 592),("__qualname__",750,kS "Box" 749),("__firstlineno__",752,kI 157 751),("__init__",764,kR 409),("__static_attributes__",774,kR 410)] 5,tp [],kF [kI 159 0,kI 4 0,kR 408],kC "Box" "Box" 743 157 0 0 399 false 400 .none .none .none 746,kfr 401 398 "gluepage.nodes" 592]++fB (Y 38 0) "__init__" "Box.__init__" 403 753 159 6 ["self","kind","width","height","depth","items"] .none "gluepage.nodes" 592++[tp (kN 765 ["depth","height","items","kind","order","ratio","shift","sign","width"]),kD P [("__module__",748,kS "gluepage.nodes" 592),("__firstlineno__",752,kI 157 751),("__init__",764,kR 409),("__static_attributes__",774,kR 410),("__dict__",776,kR 413),("__weakref__",778,kR 414),("__doc__",779,.none)] 4,kT "Box" 412 [.type "object"] tlO 411 [] none 741 749 "object.__new__",kG "__dict__" 775 412 "function.__dict__" (.builtin "function.__dict__#set"),kG "__weakref__" 777 412 "ExceptionGroup.__weakref__" .none,kU 412,kB 412]
noncomputable def T19(P:Params):BT:=puts (wr (wr (T18 P) 3 (go3 P (kS "gluepage.nodes" 592) 75)) 12 (po12 75)) 396 (L19 P)
noncomputable def L20(P:Params):List Obj:=[tp [],kP,kD P [("__module__",789,kS "gluepage.nodes" 592),("__qualname__",791,kS "Rule" 790),("__firstlineno__",793,kI 171 792),("kind",794,kI 4 598),("__init__",805,kR 430),("__static_attributes__",809,kR 431)] 6,tp [],kF [kI 174 0,kI 4 0,kR 429],kC "Rule" "Rule" 784 171 0 0 420 false 421 .none .none .none 787,kfr 422 419 "gluepage.nodes" 592]++fB (Y 39 1) "__init__" "Rule.__init__" 424 795 174 4 ["self","width","height","depth","size"] .none "gluepage.nodes" 592++[tp (kN 806 ["depth","height","width"]),kD P [("__module__",789,kS "gluepage.nodes" 592),("__firstlineno__",793,kI 171 792),("kind",794,kI 4 598),("__init__",805,kR 430),("__static_attributes__",809,kR 431),("__dict__",811,kR 434),("__weakref__",813,kR 435),("__doc__",814,.none)] 4,kT "Rule" 433 [.type "object"] tlO 432 [] none 782 790 "object.__new__",kG "__dict__" 810 433 "function.__dict__" (.builtin "function.__dict__#set"),kG "__weakref__" 812 433 "ExceptionGroup.__weakref__" .none,kU 433,kB 433]
noncomputable def T20(P:Params):BT:=puts (wr (wr (T19 P) 3 (go3 P (kS "gluepage.nodes" 592) 76)) 12 (po12 78)) 417 (L20 P)
noncomputable def L21(P:Params):List Obj:=[tp [],kP,kD P [("__module__",824,kS "gluepage.nodes" 592),("__qualname__",826,kS "Kern" 825),("__firstlineno__",828,kI 181 827),("kind",829,kI 5 599),("__init__",838,kR 451),("__static_attributes__",841,kR 452)] 6,tp [],kF [kI 184 0,kI 4 0,kR 450],kC "Kern" "Kern" 819 181 0 0 441 false 442 .none .none .none 822,kfr 443 440 "gluepage.nodes" 592]++fB (Y 40 1) "__init__" "Kern.__init__" 445 830 184 3 ["self","width","sort"] .none "gluepage.nodes" 592++[tp (kN 839 ["sort","width"]),kD P [("__module__",824,kS "gluepage.nodes" 592),("__firstlineno__",828,kI 181 827),("kind",829,kI 5 599),("__init__",838,kR 451),("__static_attributes__",841,kR 452),("__dict__",843,kR 455),("__weakref__",845,kR 456),("__doc__",846,.none)] 4,kT "Kern" 454 [.type "object"] tlO 453 [] none 817 825 "object.__new__",kG "__dict__" 842 454 "function.__dict__" (.builtin "function.__dict__#set"),kG "__weakref__" 844 454 "ExceptionGroup.__weakref__" .none,kU 454,kB 454]
noncomputable def T21(P:Params):BT:=puts (wr (wr (T20 P) 3 (go3 P (kS "gluepage.nodes" 592) 77)) 12 (po12 81)) 438 (L21 P)
noncomputable def L22(P:Params):List Obj:=[tp [],kP,kD P [("__module__",856,kS "gluepage.nodes" 592),("__qualname__",858,kS "Skip" 857),("__firstlineno__",860,kI 189 859),("kind",861,kI 6 600),("__init__",871,kR 473),("__static_attributes__",875,kR 474)] 6,tp [],kF [kI 192 0,kI 4 0,kR 472],kC "Skip" "Skip" 851 189 0 0 462 false 463 .none .none .none 854,kfr 464 461 "gluepage.nodes" 592,tp [.none]]++fB (Y 41 1) "__init__" "Skip.__init__" 467 862 192 4 ["self","glue","sort","leader"] (kR 466) "gluepage.nodes" 592++[tp (kN 872 ["glue","leader","sort"]),kD P [("__module__",856,kS "gluepage.nodes" 592),("__firstlineno__",860,kI 189 859),("kind",861,kI 6 600),("__init__",871,kR 473),("__static_attributes__",875,kR 474),("__dict__",877,kR 477),("__weakref__",879,kR 478),("__doc__",880,.none)] 4,kT "Skip" 476 [.type "object"] tlO 475 [] none 849 857 "object.__new__",kG "__dict__" 876 476 "function.__dict__" (.builtin "function.__dict__#set"),kG "__weakref__" 878 476 "ExceptionGroup.__weakref__" .none,kU 476,kB 476]
noncomputable def T22(P:Params):BT:=puts (wr (wr (T21 P) 3 (go3 P (kS "gluepage.nodes" 592) 78)) 12 (po12 84)) 459 (L22 P)
noncomputable def L23(P:Params):List Obj:=[tp [],kP,kD P [("__module__",890,kS "gluepage.nodes" 592),("__qualname__",892,kS "Penalty" 891),("__firstlineno__",894,kI 202 893),("kind",895,kI 7 601),("__init__",903,kR 494),("__static_attributes__",905,kR 495)] 6,tp [],kF [kI 205 0,kI 4 0,kR 493],kC "Penalty" "Penalty" 885 202 0 0 484 false 485 .none .none .none 888,kfr 486 483 "gluepage.nodes" 592]++fB (Y 42 1) "__init__" "Penalty.__init__" 488 896 205 2 ["self","value"] .none "gluepage.nodes" 592++[tp (kN 904 ["value"]),kD P [("__module__",890,kS "gluepage.nodes" 592),("__firstlineno__",894,kI 202 893),("kind",895,kI 7 601),("__init__",903,kR 494),("__static_attributes__",905,kR 495),("__dict__",907,kR 498),("__weakref__",909,kR 499),("__doc__",910,.none)] 4,kT "Penalty" 497 [.type "object"] tlO 496 [] none 883 891 "object.__new__",kG "__dict__" 906 497 "function.__dict__" (.builtin "function.__dict__#set"),kG "__weakref__" 908 497 "ExceptionGroup.__weakref__" .none,kU 497,kB 497]
noncomputable def T23(P:Params):BT:=puts (wr (wr (T22 P) 3 (go3 P (kS "gluepage.nodes" 592) 79)) 12 (po12 87)) 481 (L23 P)
noncomputable def L24(P:Params):List Obj:=[tp [],kP,kD P [("__module__",920,kS "gluepage.nodes" 592),("__qualname__",922,kS "Disc" 921),("__firstlineno__",924,kI 207 923),("kind",925,kI 8 610),("__init__",935,kR 515),("__static_attributes__",939,kR 516)] 6,tp [],kF [kI 210 0,kI 4 0,kR 514],kC "Disc" "Disc" 915 207 0 0 505 false 506 .none .none .none 918,kfr 507 504 "gluepage.nodes" 592]++fB (Y 43 1) "__init__" "Disc.__init__" 509 926 210 4 ["self","pre","post","middle"] .none "gluepage.nodes" 592++[tp (kN 936 ["middle","post","pre"]),kD P [("__module__",920,kS "gluepage.nodes" 592),("__firstlineno__",924,kI 207 923),("kind",925,kI 8 610),("__init__",935,kR 515),("__static_attributes__",939,kR 516),("__dict__",941,kR 519),("__weakref__",943,kR 520),("__doc__",944,.none)] 4,kT "Disc" 518 [.type "object"] tlO 517 [] none 913 921 "object.__new__",kG "__dict__" 940 518 "function.__dict__" (.builtin "function.__dict__#set"),kG "__weakref__" 942 518 "ExceptionGroup.__weakref__" .none,kU 518,kB 518]
noncomputable def T24(P:Params):BT:=puts (wr (wr (T23 P) 3 (go3 P (kS "gluepage.nodes" 592) 80)) 12 (po12 90)) 502 (L24 P)
noncomputable def L25(P:Params):List Obj:=[tp [],kP,kD P [("__module__",954,kS "gluepage.nodes" 592),("__qualname__",956,kS "Mark" 955),("__firstlineno__",958,kI 214 957),("kind",959,kI 9 611),("__init__",967,kR 536),("__static_attributes__",969,kR 537)] 6,tp [],kF [kI 217 0,kI 4 0,kR 535],kC "Mark" "Mark" 949 214 0 0 526 false 527 .none .none .none 952,kfr 528 525 "gluepage.nodes" 592]++fB (Y 44 1) "__init__" "Mark.__init__" 530 960 217 2 ["self","tokens"] .none "gluepage.nodes" 592++[tp (kN 968 ["tokens"]),kD P [("__module__",954,kS "gluepage.nodes" 592),("__firstlineno__",958,kI 214 957),("kind",959,kI 9 611),("__init__",967,kR 536),("__static_attributes__",969,kR 537),("__dict__",971,kR 540),("__weakref__",973,kR 541),("__doc__",974,.none)] 4,kT "Mark" 539 [.type "object"] tlO 538 [] none 947 955 "object.__new__",kG "__dict__" 970 539 "function.__dict__" (.builtin "function.__dict__#set"),kG "__weakref__" 972 539 "ExceptionGroup.__weakref__" .none,kU 539,kB 539]
noncomputable def T25(P:Params):BT:=puts (wr (wr (T24 P) 3 (go3 P (kS "gluepage.nodes" 592) 81)) 12 (po12 93)) 523 (L25 P)
noncomputable def L26(P:Params):List Obj:=[tp [],kP,kD P [("__module__",984,kS "gluepage.nodes" 592),("__qualname__",986,kS "Insert" 985),("__firstlineno__",988,kI 219 987),("kind",989,kI 10 612),("__init__",1002,kR 557),("__static_attributes__",1009,kR 558)] 6,tp [],kF [kI 222 0,kI 4 0,kR 556],kC "Insert" "Insert" 979 219 0 0 547 false 548 .none .none .none 982,kfr 549 546 "gluepage.nodes" 592]++fB (Y 45 1) "__init__" "Insert.__init__" 551 990 222 7 ["self","number","size","depth","top","cost","items"] .none "gluepage.nodes" 592++[tp (kN 1003 ["cost","depth","items","number","size","top"]),kD P [("__module__",984,kS "gluepage.nodes" 592),("__firstlineno__",988,kI 219 987),("kind",989,kI 10 612),("__init__",1002,kR 557),("__static_attributes__",1009,kR 558),("__dict__",1011,kR 561),("__weakref__",1013,kR 562),("__doc__",1014,.none)] 4,kT "Insert" 560 [.type "object"] tlO 559 [] none 977 985 "object.__new__",kG "__dict__" 1010 560 "function.__dict__" (.builtin "function.__dict__#set"),kG "__weakref__" 1012 560 "ExceptionGroup.__weakref__" .none,kU 560,kB 560]
noncomputable def T26(P:Params):BT:=puts (wr (wr (T25 P) 3 (go3 P (kS "gluepage.nodes" 592) 82)) 12 (po12 96)) 544 (L26 P)
noncomputable def L27(P:Params):List Obj:=[tp [],kP,kD P [("__module__",1024,kS "gluepage.nodes" 592),("__qualname__",1026,kS "Adjust" 1025),("__firstlineno__",1028,kI 231 1027),("kind",1029,kI 11 613),("__init__",1037,kR 578),("__static_attributes__",1039,kR 579)] 6,tp [],kF [kI 234 0,kI 4 0,kR 577],kC "Adjust" "Adjust" 1019 231 0 0 568 false 569 .none .none .none 1022,kfr 570 567 "gluepage.nodes" 592]++fB (Y 46 1) "__init__" "Adjust.__init__" 572 1030 234 2 ["self","items"] .none "gluepage.nodes" 592++[tp (kN 1038 ["items"]),kD P [("__module__",1024,kS "gluepage.nodes" 592),("__firstlineno__",1028,kI 231 1027),("kind",1029,kI 11 613),("__init__",1037,kR 578),("__static_attributes__",1039,kR 579),("__dict__",1041,kR 582),("__weakref__",1043,kR 583),("__doc__",1044,.none)] 4,kT "Adjust" 581 [.type "object"] tlO 580 [] none 1017 1025 "object.__new__",kG "__dict__" 1040 581 "function.__dict__" (.builtin "function.__dict__#set"),kG "__weakref__" 1042 581 "ExceptionGroup.__weakref__" .none,kU 581,kB 581]
noncomputable def T27(P:Params):BT:=puts (wr (wr (T26 P) 3 (go3 P (kS "gluepage.nodes" 592) 83)) 12 (po12 99)) 565 (L27 P)
noncomputable def L28(P:Params):List Obj:=[tp [],kP,kD P [("__module__",1054,kS "gluepage.nodes" 592),("__qualname__",1056,kS "MathEdge" 1055),("__firstlineno__",1058,kI 236 1057),("kind",1059,kI 12 614),("__init__",1068,kR 599),("__static_attributes__",1071,kR 600)] 6,tp [],kF [kI 239 0,kI 4 0,kR 598],kC "MathEdge" "MathEdge" 1049 236 0 0 589 false 590 .none .none .none 1052,kfr 591 588 "gluepage.nodes" 592]++fB (Y 47 1) "__init__" "MathEdge.__init__" 593 1060 239 3 ["self","is_on","width"] .none "gluepage.nodes" 592++[tp (kN 1069 ["is_on","width"]),kD P [("__module__",1054,kS "gluepage.nodes" 592),("__firstlineno__",1058,kI 236 1057),("kind",1059,kI 12 614),("__init__",1068,kR 599),("__static_attributes__",1071,kR 600),("__dict__",1073,kR 603),("__weakref__",1075,kR 604),("__doc__",1076,.none)] 4,kT "MathEdge" 602 [.type "object"] tlO 601 [] none 1047 1055 "object.__new__",kG "__dict__" 1072 602 "function.__dict__" (.builtin "function.__dict__#set"),kG "__weakref__" 1074 602 "ExceptionGroup.__weakref__" .none,kU 602,kB 602]
noncomputable def T28(P:Params):BT:=puts (wr (wr (T27 P) 3 (go3 P (kS "gluepage.nodes" 592) 84)) 12 (po12 102)) 586 (L28 P)
noncomputable def L29(P:Params):List Obj:=[tp [],kP,kD P [("__module__",1086,kS "gluepage.nodes" 592),("__qualname__",1088,kS "Special" 1087),("__firstlineno__",1090,kI 242 1089),("kind",1091,kI 13 615),("sort",1092,kI 0 652),("__init__",1101,kR 620),("__static_attributes__",1103,kR 621)] 7,tp [],kF [kI 246 0,kI 4 0,kR 619],kC "Special" "Special" 1081 242 0 0 610 false 611 .none .none .none 1084,kfr 612 609 "gluepage.nodes" 592]++fB (Y 48 2) "__init__" "Special.__init__" 614 1093 246 2 ["self","octets","octet"] .none "gluepage.nodes" 592++[tp (kN 1102 ["octets"]),kD P [("__module__",1086,kS "gluepage.nodes" 592),("__firstlineno__",1090,kI 242 1089),("kind",1091,kI 13 615),("sort",1092,kI 0 652),("__init__",1101,kR 620),("__static_attributes__",1103,kR 621),("__dict__",1105,kR 624),("__weakref__",1107,kR 625),("__doc__",1108,.none)] 4,kT "Special" 623 [.type "object"] tlO 622 [] none 1079 1087 "object.__new__",kG "__dict__" 1104 623 "function.__dict__" (.builtin "function.__dict__#set"),kG "__weakref__" 1106 623 "ExceptionGroup.__weakref__" .none,kU 623,kB 623]
noncomputable def T29(P:Params):BT:=puts (wr (wr (T28 P) 3 (go3 P (kS "gluepage.nodes" 592) 85)) 12 (po12 105)) 607 (L29 P)
noncomputable def L30(P:Params):List Obj:=[tp [],kP,kD P [("__module__",1118,kS "gluepage.nodes" 592),("__qualname__",1120,kS "Write" 1119),("__firstlineno__",1122,kI 253 1121),("kind",1123,kI 13 615),("sort",1124,kI 1 653),("__init__",1133,kR 641),("__static_attributes__",1136,kR 642)] 7,tp [],kF [kI 257 0,kI 4 0,kR 640],kC "Write" "Write" 1113 253 0 0 631 false 632 .none .none .none 1116,kfr 633 630 "gluepage.nodes" 592]++fB (Y 49 2) "__init__" "Write.__init__" 635 1125 257 3 ["self","stream","tokens"] .none "gluepage.nodes" 592++[tp (kN 1134 ["stream","tokens"]),kD P [("__module__",1118,kS "gluepage.nodes" 592),("__firstlineno__",1122,kI 253 1121),("kind",1123,kI 13 615),("sort",1124,kI 1 653),("__init__",1133,kR 641),("__static_attributes__",1136,kR 642),("__dict__",1138,kR 645),("__weakref__",1140,kR 646),("__doc__",1141,.none)] 4,kT "Write" 644 [.type "object"] tlO 643 [] none 1111 1119 "object.__new__",kG "__dict__" 1137 644 "function.__dict__" (.builtin "function.__dict__#set"),kG "__weakref__" 1139 644 "ExceptionGroup.__weakref__" .none,kU 644,kB 644]
noncomputable def T30(P:Params):BT:=puts (wr (wr (T29 P) 3 (go3 P (kS "gluepage.nodes" 592) 86)) 12 (po12 108)) 628 (L30 P)
noncomputable def L31(P:Params):List Obj:=[tp [],kP,kD P [("__module__",1151,kS "gluepage.nodes" 592),("__qualname__",1153,kS "OpenOut" 1152),("__firstlineno__",1155,kI 260 1154),("kind",1156,kI 13 615),("sort",1157,kI 2 654),("__init__",1166,kR 662),("__static_attributes__",1169,kR 663)] 7,tp [],kF [kI 264 0,kI 4 0,kR 661],kC "OpenOut" "OpenOut" 1146 260 0 0 652 false 653 .none .none .none 1149,kfr 654 651 "gluepage.nodes" 592]++fB (Y 50 2) "__init__" "OpenOut.__init__" 656 1158 264 3 ["self","stream","name"] .none "gluepage.nodes" 592++[tp (kN 1167 ["name","stream"]),kD P [("__module__",1151,kS "gluepage.nodes" 592),("__firstlineno__",1155,kI 260 1154),("kind",1156,kI 13 615),("sort",1157,kI 2 654),("__init__",1166,kR 662),("__static_attributes__",1169,kR 663),("__dict__",1171,kR 666),("__weakref__",1173,kR 667),("__doc__",1174,.none)] 4,kT "OpenOut" 665 [.type "object"] tlO 664 [] none 1144 1152 "object.__new__",kG "__dict__" 1170 665 "function.__dict__" (.builtin "function.__dict__#set"),kG "__weakref__" 1172 665 "ExceptionGroup.__weakref__" .none,kU 665,kB 665]
noncomputable def T31(P:Params):BT:=puts (wr (wr (T30 P) 3 (go3 P (kS "gluepage.nodes" 592) 87)) 12 (po12 111)) 649 (L31 P)
noncomputable def L32(P:Params):List Obj:=[tp [],kP,kD P [("__module__",1184,kS "gluepage.nodes" 592),("__qualname__",1186,kS "CloseOut" 1185),("__firstlineno__",1188,kI 269 1187),("kind",1189,kI 13 615),("sort",1190,kI 3 655),("__init__",1198,kR 683),("__static_attributes__",1200,kR 684)] 7,tp [],kF [kI 273 0,kI 4 0,kR 682],kC "CloseOut" "CloseOut" 1179 269 0 0 673 false 674 .none .none .none 1182,kfr 675 672 "gluepage.nodes" 592]++fB (Y 51 2) "__init__" "CloseOut.__init__" 677 1191 273 2 ["self","stream"] .none "gluepage.nodes" 592++[tp (kN 1199 ["stream"]),kD P [("__module__",1184,kS "gluepage.nodes" 592),("__firstlineno__",1188,kI 269 1187),("kind",1189,kI 13 615),("sort",1190,kI 3 655),("__init__",1198,kR 683),("__static_attributes__",1200,kR 684),("__dict__",1202,kR 687),("__weakref__",1204,kR 688),("__doc__",1205,.none)] 4,kT "CloseOut" 686 [.type "object"] tlO 685 [] none 1177 1185 "object.__new__",kG "__dict__" 1201 686 "function.__dict__" (.builtin "function.__dict__#set"),kG "__weakref__" 1203 686 "ExceptionGroup.__weakref__" .none,kU 686,kB 686]
noncomputable def T32(P:Params):BT:=puts (wr (wr (T31 P) 3 (go3 P (kS "gluepage.nodes" 592) 88)) 12 (po12 114)) 670 (L32 P)
noncomputable def L33(P:Params):List Obj:=[tp [],kP,kD P [("__module__",1215,kS "gluepage.nodes" 592),("__qualname__",1217,kS "Unset" 1216),("__firstlineno__",1219,kI 275 1218),("kind",1220,kI 14 616),("__init__",1234,kR 705),("__static_attributes__",1242,kR 706)] 6,tp [],kF [kI 278 0,kI 4 0,kR 704],kC "Unset" "Unset" 1210 275 0 0 694 false 695 .none .none .none 1213,kfr 696 693 "gluepage.nodes" 592,tp [.bool false]]++fB (Y 52 1) "__init__" "Unset.__init__" 699 1221 278 8 ["self","width","height","depth","items","spans","totals","is_vertical"] (kR 698) "gluepage.nodes" 592++[tp (kN 1235 ["depth","height","is_vertical","items","spans","totals","width"]),kD P [("__module__",1215,kS "gluepage.nodes" 592),("__firstlineno__",1219,kI 275 1218),("kind",1220,kI 14 616),("__init__",1234,kR 705),("__static_attributes__",1242,kR 706),("__dict__",1244,kR 709),("__weakref__",1246,kR 710),("__doc__",1247,.none)] 4,kT "Unset" 708 [.type "object"] tlO 707 [] none 1208 1216 "object.__new__",kG "__dict__" 1243 708 "function.__dict__" (.builtin "function.__dict__#set"),kG "__weakref__" 1245 708 "ExceptionGroup.__weakref__" .none,kU 708,kB 708]++fB (X 53) "check_depth" "check_depth" 713 1250 288 1 ["depth"] .none "gluepage.nodes" 592++fB (X 54) "described_special" "described_special" 720 1257 291 1 [] .none "gluepage.nodes" 592++fB (X 55) "described_rest" "described_rest" 725 1263 297 2 ["node","depth","kind","sums","sizes"] .none "gluepage.nodes" 592++[tp [kI 0 1274]]++fB (X 56) "described" "described" 733 1275 312 2 [] (kR 732) "gluepage.nodes" 592++[tp [kI 0 1281]]++fB (X 57) "described_list" "described_list" 739 1282 335 2 [] (kR 738) "gluepage.nodes" 592
noncomputable def T33(P:Params):BT:=puts (wr (wr (T32 P) 3 (go3 P (kS "gluepage.nodes" 592) 94)) 12 (po12 132)) 691 (L33 P)
noncomputable def T34(P:Params):BT:=wr (T33 P) 3 (go3 P (kS "gluepage.tokens" 1288) 94)
noncomputable def L35(P:Params):List Obj:=[tp [kI 0 1290,kI 1 1291,kI 2 1292,kI 3 1293,kI 4 1294,kI 5 1295,kI 6 1296,kI 7 1297],kO "tuple_iterator" (.fields #[.none,kI 8 0]) #[],tp [],kO "StopIteration" (.fields #[kR 746,.none,.none,.none,.bool false,.none]) #[],tp [kI 8 1306,kI 9 1307,kI 10 1308,kI 11 1309,kI 12 1310,kI 13 1311,kI 14 1312,kI 15 1313],kO "tuple_iterator" (.fields #[.none,kI 8 0]) #[],tp [],kO "StopIteration" (.fields #[kR 750,.none,.none,.none,.bool false,.none]) #[]]
noncomputable def T35(P:Params):BT:=puts (wr (T34 P) 3 (go3 P (kS "gluepage.tokens" 1288) 110)) 744 (L35 P)
noncomputable def L36(P:Params):List Obj:=[tp [kI 0 1322,kI 5 1323,kI 9 1324,kI 14 1325,kI 15 1326],kO "tuple_iterator" (.fields #[.none,kI 5 0]) #[],tp [],kO "StopIteration" (.fields #[kR 754,.none,.none,.none,.bool false,.none]) #[]]
noncomputable def T36(P:Params):BT:=puts (wr (T35 P) 3 (go3 P (kS "gluepage.tokens" 1288) 115)) 752 (L36 P)
noncomputable def L37(P:Params):List Obj:=[tp [kI 0 1336,kI 0 1337,kI 0 1338,kI 0 1339,kI 0 1340,kI 1 1341,kI 0 1342,kI 0 1343,kI 0 1344,kI 1 1345,kI 0 1346,kI 0 1347,kI 0 1348,kI 0 1349,kI 0 1350,kI 0 1351],tp [kI 1048575 1354,kI 255 1355,kI 255 1356,kI 255 1357,kI 255 1358,kI 9 1359,kI 255 1360,kI 255 1361,kI 255 1362,kI 9 1363,kI 255 1364,kI 255 1365,kI 255 1366,kI 255 1367,kI 255 1368,kI 0 1369],tp (kN 1371 ["endtemplate","endoutput","endlist","beginentry","relax"])]
noncomputable def T37(P:Params):BT:=puts (wr (T36 P) 3 (go3 P (kS "gluepage.tokens" 1288) 119)) 756 (L37 P)
noncomputable def L38(P:Params):List Obj:=[kO "dict" (.dict #[⟨0,kI 0 1377,kI 9 1307⟩,⟨13,kI 13 1378,kI 5 1295⟩,⟨32,kI 32 1379,kI 10 1308⟩,⟨35,kI 35 1380,kI 6 1296⟩,⟨36,kI 36 1381,kI 3 1293⟩,⟨37,kI 37 1382,kI 14 1312⟩,⟨38,kI 38 1383,kI 4 1294⟩,⟨92,kI 92 1384,kI 0 1290⟩,⟨94,kI 94 1385,kI 7 1297⟩,⟨95,kI 95 1386,kI 8 1306⟩,⟨123,kI 123 1387,kI 1 1291⟩,⟨125,kI 125 1388,kI 2 1292⟩,⟨126,kI 126 1389,kI 13 1311⟩,⟨127,kI 127 1390,kI 15 1313⟩] 14) #[]]
noncomputable def T38(P:Params):BT:=puts (wr (T37 P) 3 (go3 P (kS "gluepage.tokens" 1288) 120)) 759 (L38 P)
noncomputable def L39(P:Params):List Obj:=fB (X 67) "is_token" "is_token" 760 1406 346 1 ["token"] .none "gluepage.tokens" 1288++fB (X 68) "check_text" "check_text" 767 1413 350 1 ["text","mark"] .none "gluepage.tokens" 1288
noncomputable def T39(P:Params):BT:=puts (wr (wr (T38 P) 3 (go3 P (kS "gluepage.tokens" 1288) 122)) 12 (po12 138)) 760 (L39 P)
noncomputable def L40(P:Params):List Obj:=[tp [],kP,kD P [("__module__",1428,kS "gluepage.tokens" 1288),("__qualname__",1430,kS "Names" 1429),("__firstlineno__",1432,kI 356 1431),("__init__",1440,kR 788),("find",1448,kR 795),("number",1457,kR 802),("text",1465,kR 809),("count",1472,kR 816),("__static_attributes__",1476,kR 817)] 9,tp [],kF [kI 358 0,kI 4 0,kR 787,kI 365 0,kI 4 0,kR 794,kI 369 0,kI 4 0,kR 801,kI 380 0,kI 4 0,kR 808,kI 385 0,kI 4 0,kR 815],kC "Names" "Names" 1423 356 0 0 777 false 778 .none .none .none 1426,kfr 779 776 "gluepage.tokens" 1288,tp [kI 1048576 1334]]++fB (Y 69 0) "__init__" "Names.__init__" 782 1433 358 2 ["self","most"] (kR 781) "gluepage.tokens" 1288++fB (Y 69 1) "find" "Names.find" 789 1441 365 2 ["self","text"] .none "gluepage.tokens" 1288++fB (Y 69 2) "number" "Names.number" 796 1449 369 2 ["self","text","found"] .none "gluepage.tokens" 1288++fB (Y 69 3) "text" "Names.text" 803 1458 380 2 ["self","number"] .none "gluepage.tokens" 1288++fB (Y 69 4) "count" "Names.count" 810 1466 385 1 ["self"] .none "gluepage.tokens" 1288++[tp (kN 1473 ["most","numbers","texts"]),kD P [("__module__",1428,kS "gluepage.tokens" 1288),("__firstlineno__",1432,kI 356 1431),("__init__",1440,kR 788),("find",1448,kR 795),("number",1457,kR 802),("text",1465,kR 809),("count",1472,kR 816),("__static_attributes__",1476,kR 817),("__dict__",1478,kR 820),("__weakref__",1480,kR 821),("__doc__",1481,.none)] 4,kT "Names" 819 [.type "object"] tlO 818 [] none 1421 1429 "object.__new__",kG "__dict__" 1477 819 "function.__dict__" (.builtin "function.__dict__#set"),kG "__weakref__" 1479 819 "ExceptionGroup.__weakref__" .none,kU 819,kB 819]++fB (X 70) "plain_category" "plain_category" 824 1484 387 1 ["code"] .none "gluepage.tokens" 1288
noncomputable def T40(P:Params):BT:=puts (wr (wr (T39 P) 3 (go3 P (kS "gluepage.tokens" 1288) 124)) 12 (po12 144)) 774 (L40 P)
noncomputable def L41(P:Params):List Obj:=[tp [.none]]++fB (X 71) "is_letter" "is_letter" 832 1491 391 2 ["code","letters"] (kR 831) "gluepage.tokens" 1288++fB (X 72) "escape_text" "escape_text" 839 1499 395 1 ["escape"] .none "gluepage.tokens" 1288++[tp [kI 92 1506]]++fB (X 73) "name_text" "name_text" 847 1507 399 2 ["name","escape","mark"] (kR 846) "gluepage.tokens" 1288++fB (X 74) "end_mark_text" "end_mark_text" 854 1516 404 1 ["number"] .none "gluepage.tokens" 1288++[tp [kI 92 1523,.none]]++fB (X 75) "show_token" "show_token" 862 1524 408 4 ["token","names","escape","letters","category","code","name"] (kR 861) "gluepage.tokens" 1288++[tp [kI 92 1537,.none]]++fB (X 76) "show_tokens" "show_tokens" 870 1538 424 4 ["tokens","names","escape","letters","found","token","part"] (kR 869) "gluepage.tokens" 1288
noncomputable def T41(P:Params):BT:=puts (wr (wr (T40 P) 3 (go3 P (kS "gluepage.showbox" 1551) 132)) 12 (po12 162)) 831 (L41 P)
noncomputable def L42(P:Params):List Obj:=[tp [kI 20 1557,kI 100 1558],kO "tuple_iterator" (.fields #[.none,kI 2 0]) #[],tp [],kO "StopIteration" (.fields #[kR 879,.none,.none,.none,.bool false,.none]) #[]]
noncomputable def T42(P:Params):BT:=puts (wr (T41 P) 3 (go3 P (kS "gluepage.showbox" 1551) 134)) 877 (L42 P)
noncomputable def L43(P:Params):List Obj:=[tp (kN 1567 ["lineskip","baselineskip","parskip","abovedisplayskip","belowdisplayskip","leftskip","rightskip","topskip","splittopskip","tabskip","spaceskip","xspaceskip","parfillskip","abovedisplayshortskip","belowdisplayshortskip","thinmuskip","medmuskip","thickmuskip"]),tp [],kP,kD P [("__module__",1593,kS "gluepage.showbox" 1551),("__qualname__",1595,kS "Showing" 1594),("__firstlineno__",1597,kI 440 1596),("__init__",1609,kR 895),("__static_attributes__",1616,kR 896)] 5,tp [],kF [kI 442 0,kI 4 0,kR 894],kC "Showing" "Showing" 1588 440 0 0 885 false 886 .none .none .none 1591,kfr 887 884 "gluepage.showbox" 1551]++fB (Y 85 0) "__init__" "Showing.__init__" 889 1598 442 6 ["self","fonts","names","escape","depth","breadth"] .none "gluepage.showbox" 1551++[tp (kN 1610 ["breadth","code","depth","escape","fonts","names"]),kD P [("__module__",1593,kS "gluepage.showbox" 1551),("__firstlineno__",1597,kI 440 1596),("__init__",1609,kR 895),("__static_attributes__",1616,kR 896),("__dict__",1618,kR 899),("__weakref__",1620,kR 900),("__doc__",1621,.none)] 4,kT "Showing" 898 [.type "object"] tlO 897 [] none 1586 1594 "object.__new__",kG "__dict__" 1617 898 "function.__dict__" (.builtin "function.__dict__#set"),kG "__weakref__" 1619 898 "ExceptionGroup.__weakref__" .none,kU 898,kB 898]++fB (X 86) "octet_text" "octet_text" 903 1624 451 1 ["code","digits"] .none "gluepage.showbox" 1551++fB (X 87) "font_text" "font_text" 910 1632 460 2 ["show","font"] .none "gluepage.showbox" 1551++fB (X 88) "rule_size" "rule_size" 917 1640 462 1 ["size"] .none "gluepage.showbox" 1551
noncomputable def T43(P:Params):BT:=puts (wr (wr (T42 P) 3 (go3 P (kS "gluepage.showbox" 1551) 142)) 12 (po12 174)) 881 (L43 P)
noncomputable def L44(P:Params):List Obj:=fB (X 89) "sizes_text" "sizes_text" 924 1647 464 1 ["node"] .none "gluepage.showbox" 1551++fB (X 90) "set_text" "set_text" 931 1654 466 1 ["box","up","down","found"] .none "gluepage.showbox" 1551++fB (X 91) "box_text" "box_text" 938 1664 474 2 ["show","box","moved_text"] .none "gluepage.showbox" 1551++fB (X 92) "cell_text" "cell_text" 945 1673 477 2 ["show","cell","found","totals","top","low"] .none "gluepage.showbox" 1551++fB (X 93) "skip_name" "skip_name" 952 1685 488 1 ["sort","number"] .none "gluepage.showbox" 1551++fB (X 94) "skip_text" "skip_text" 959 1693 491 2 ["show","node","escape","sort","name"] .none "gluepage.showbox" 1551++fB (X 95) "kern_text" "kern_text" 966 1704 501 2 ["show","node","size","found"] .none "gluepage.showbox" 1551++fB (X 96) "ligature_text" "ligature_text" 973 1714 507 2 [] .none "gluepage.showbox" 1551++fB (X 97) "stream_text" "stream_text" 978 1720 510 1 ["stream"] .none "gluepage.showbox" 1551++fB (X 98) "tokens_text" "tokens_text" 985 1727 514 2 ["show","tokens"] .none "gluepage.showbox" 1551++fB (X 99) "special_text" "special_text" 992 1735 516 2 [] .none "gluepage.showbox" 1551++fB (X 100) "insert_text" "insert_text" 997 1741 524 2 ["show","node","split"] .none "gluepage.showbox" 1551++fB (X 101) "edge_text" "edge_text" 1004 1750 527 2 ["show","node"] .none "gluepage.showbox" 1551
noncomputable def T44(P:Params):BT:=puts (wr (wr (T43 P) 3 (go3 P (kS "gluepage.showbox" 1551) 155)) 12 (po12 213)) 924 (L44 P)
noncomputable def L45(P:Params):List Obj:=fB (X 102) "disc_text" "disc_text" 1011 1758 529 2 ["show","node"] .none "gluepage.showbox" 1551++fB (X 103) "node_text" "node_text" 1018 1766 531 2 ["show","node","kind"] .none "gluepage.showbox" 1551++fB (X 104) "lists_of" "lists_of" 1025 1775 562 1 ["node","kind"] .none "gluepage.showbox" 1551++fB (X 105) "node_lines" "node_lines" 1032 1783 569 3 ["show","node","ahead","found","mark","items"] .none "gluepage.showbox" 1551++fB (X 106) "list_lines" "list_lines" 1039 1795 577 3 ["show","items","ahead","nodes","node","found"] .none "gluepage.showbox" 1551++[tp [kI 20 1557,kI 100 1558,.none,kI 92 1807]]++fB (X 107) "box_lines" "box_lines" 1047 1808 587 6 ["box","fonts","depth","breadth","names","escape","show"] (kR 1046) "gluepage.showbox" 1551
noncomputable def T45(P:Params):BT:=puts (wr (wr (T44 P) 3 (go3 P (kS "gluepage.fonts" 1821) 165)) 12 (po12 231)) 1011 (L45 P)
noncomputable def L46(P:Params):List Obj:=[tp [kI 0 1835,kI 1 1836,kI 2 1837,kI 3 1838],kO "tuple_iterator" (.fields #[.none,kI 4 0]) #[],tp [],kO "StopIteration" (.fields #[kR 1056,.none,.none,.none,.bool false,.none]) #[],tp [kI 128 1843,kI 128 1844,kI 255 1845],kO "tuple_iterator" (.fields #[.none,kI 3 0]) #[],tp [],kO "StopIteration" (.fields #[kR 1060,.none,.none,.none,.bool false,.none]) #[]]
noncomputable def T46(P:Params):BT:=puts (wr (T45 P) 3 (go3 P (kS "gluepage.fonts" 1821) 172)) 1054 (L46 P)
noncomputable def L47(P:Params):List Obj:=[tp [kI 0 1849,kI 0 1850,kI 0 1851,kI 0 1852,kI 0 1853,kI 0 1854],tp [kI 0 1858,kI 196608 1859,kI 98304 1860,kI 65536 1861,kI 262144 1862,kI 655360 1863,kI 65536 1864]]++fB (X 118) "is_size" "is_size" 1064 1866 600 1 ["value"] .none "gluepage.fonts" 1821++fB (X 119) "check_sizes" "check_sizes" 1071 1873 602 1 ["sizes","size"] .none "gluepage.fonts" 1821++fB (X 120) "check_pieces" "check_pieces" 1078 1881 606 2 ["pieces","chars","place","code"] .none "gluepage.fonts" 1821++fB (X 121) "check_chars" "check_chars" 1085 1891 612 2 ["chars","many","code","row","sort","rest"] .none "gluepage.fonts" 1821++fB (X 122) "check_larger" "check_larger" 1092 1903 624 1 ["chars","code","far","turns"] .none "gluepage.fonts" 1821++fB (X 123) "check_program" "check_program" 1099 1913 632 4 ["program","kerns","chars","boundary","many","place","row","octet","skip","following","op","rest"] .none "gluepage.fonts" 1821++fB (X 124) "left_start" "left_start" 1106 1931 651 1 ["program","skip","following","op","rest"] .none "gluepage.fonts" 1821
noncomputable def T47(P:Params):BT:=puts (wr (wr (T46 P) 3 (go3 P (kS "gluepage.fonts" 1821) 182)) 12 (po12 252)) 1062 (L47 P)
noncomputable def L48(P:Params):List Obj:=[tp [],kP,kD P [("__module__",1949,kS "gluepage.fonts" 1821),("__qualname__",1951,kS "Font" 1950),("__firstlineno__",1953,kI 656 1952),("__init__",1968,kR 1129),("has",1976,kR 1136),("width",1984,kR 1143),("height",1992,kR 1150),("depth",2000,kR 1157),("italic",2008,kR 1164),("starts",2016,kR 1171),("larger",2025,kR 1178),("pieces",2034,kR 1185),("param",2042,kR 1192),("set_param",2051,kR 1199),("__static_attributes__",2065,kR 1200)] 15,tp [],kF [kI 658 0,kI 4 0,kR 1128,kI 682 0,kI 4 0,kR 1135,kI 685 0,kI 4 0,kR 1142,kI 688 0,kI 4 0,kR 1149,kI 691 0,kI 4 0,kR 1156,kI 694 0,kI 4 0,kR 1163,kI 697 0,kI 4 0,kR 1170,kI 700 0,kI 4 0,kR 1177,kI 704 0,kI 4 0,kR 1184,kI 708 0,kI 4 0,kR 1191,kI 711 0,kI 4 0,kR 1198],kC "Font" "Font" 1944 656 0 0 1116 false 1117 .none .none .none 1947,kfr 1118 1115 "gluepage.fonts" 1821,tp [],tp [],tp [kR 1120,kR 1121,kI 256 1823]]++fB (Y 125 0) "__init__" "Font.__init__" 1123 1954 658 9 ["self","number","name","size","params","chars","program","kerns","boundary"] (kR 1122) "gluepage.fonts" 1821++fB (Y 125 1) "has" "Font.has" 1130 1969 682 2 ["self","code"] .none "gluepage.fonts" 1821++fB (Y 125 2) "width" "Font.width" 1137 1977 685 2 ["self","code"] .none "gluepage.fonts" 1821++fB (Y 125 3) "height" "Font.height" 1144 1985 688 2 ["self","code"] .none "gluepage.fonts" 1821++fB (Y 125 4) "depth" "Font.depth" 1151 1993 691 2 ["self","code"] .none "gluepage.fonts" 1821++fB (Y 125 5) "italic" "Font.italic" 1158 2001 694 2 ["self","code"] .none "gluepage.fonts" 1821++fB (Y 125 6) "starts" "Font.starts" 1165 2009 697 2 ["self","code"] .none "gluepage.fonts" 1821++fB (Y 125 7) "larger" "Font.larger" 1172 2017 700 2 ["self","code","row"] .none "gluepage.fonts" 1821++fB (Y 125 8) "pieces" "Font.pieces" 1179 2026 704 2 ["self","code","row"] .none "gluepage.fonts" 1821++fB (Y 125 9) "param" "Font.param" 1186 2035 708 2 ["self","number"] .none "gluepage.fonts" 1821++fB (Y 125 10) "set_param" "Font.set_param" 1193 2043 711 3 ["self","number","value"] .none "gluepage.fonts" 1821++[tp (kN 2052 ["boundary","chars","check","design","edge_start","hyphen_char","kerns","name","number","params","program","size","skew_char"]),kD P [("__module__",1949,kS "gluepage.fonts" 1821),("__firstlineno__",1953,kI 656 1952),("__init__",1968,kR 1129),("has",1976,kR 1136),("width",1984,kR 1143),("height",1992,kR 1150),("depth",2000,kR 1157),("italic",2008,kR 1164),("starts",2016,kR 1171),("larger",2025,kR 1178),("pieces",2034,kR 1185),("param",2042,kR 1192),("set_param",2051,kR 1199),("__static_attributes__",2065,kR 1200),("__dict__",2067,kR 1203),("__weakref__",2069,kR 1204),("__doc__",2070,.none)] 4,kT "Font" 1202 [.type "object"] tlO 1201 [] none 1942 1950 "object.__new__",kG "__dict__" 2066 1202 "function.__dict__" (.builtin "function.__dict__#set"),kG "__weakref__" 2068 1202 "ExceptionGroup.__weakref__" .none,kU 1202,kB 1202]
noncomputable def T48(P:Params):BT:=puts (wr (wr (T47 P) 3 (go3 P (kS "gluepage.fonts" 1821) 183)) 12 (po12 255)) 1113 (L48 P)
noncomputable def L49(P:Params):List Obj:=fB (X 126) "font_name" "font_name" 1207 2073 713 1 ["number","left","found"] .none "gluepage.fonts" 1821++[tp [],tp [],tp [kR 1063,kR 1214,kR 1215,kI 256 1823]]++fB (X 127) "font_of_rows" "font_of_rows" 1217 2082 720 6 ["number","rows","params","program","kerns","boundary","chars","row"] (kR 1216) "gluepage.fonts" 1821++[tp [],kF [],tp [],tp [],fo (X 129) "_law_orders",kC "_law_orders" "_law_orders" 2098 730 0 3 1224 true 1225 (kR 1226) (kR 1227) (kR 1228) 2101,fu (X 129) "_law_orders" .none "law_sq0076_01" 2096 1229,tp [],kF [],tp [],tp [],fo (X 130) "_law_names",kC "_law_names" "_law_names" 2104 732 0 3 1231 true 1232 (kR 1233) (kR 1234) (kR 1235) 2107,fu (X 130) "_law_names" .none "law_sq0076_01" 2096 1236]++fB (X 131) "_law_heap" "_law_heap" 1238 2110 734 1 ["script","whole_one","cell"] .none "law_sq0076_01" 2096++fB (X 132) "_law_take" "_law_take" 1245 2119 739 2 ["heap","many","digit"] .none "law_sq0076_01" 2096++fB (X 133) "_law_half" "_law_half" 1252 2128 746 1 ["n"] .none "law_sq0076_01" 2096++fB (X 134) "_law_number" "_law_number" 1259 2135 748 1 ["heap"] .none "law_sq0076_01" 2096++fB (X 135) "_law_flow" "_law_flow" 1266 2142 750 2 ["heap","unit","width","more","first","less","second","text"] .none "law_sq0076_01" 2096++fB (X 136) "_law_sizes" "_law_sizes" 1273 2156 758 1 [] .none "law_sq0076_01" 2096++fB (X 137) "_law_box" "_law_box" 1278 2162 761 3 [] .none "law_sq0076_01" 2096++fB (X 138) "_law_cell" "_law_cell" 1283 2168 771 3 [] .none "law_sq0076_01" 2096
noncomputable def T49(P:Params):BT:=puts (wr (wr (T48 P) 3 (go3 P (kS "law_sq0076_01" 2096) 195)) 12 (po12 291)) 1207 (L49 P)
noncomputable def L50(P:Params):List Obj:=fB (X 139) "_law_letter" "_law_letter" 1288 2174 780 2 ["heap","tools","font","name","code","text","left","right","row"] .none "law_sq0076_01" 2096++fB (X 140) "_law_done" "_law_done" 1295 2189 788 2 ["heap","tools","way","n","tokens","text","stream"] .none "law_sq0076_01" 2096++fB (X 141) "_law_skip" "_law_skip" 1302 2202 799 3 ["heap","tools","deep","way","flow","text","sort","row","leader"] .none "law_sq0076_01" 2096++fB (X 142) "_law_rule" "_law_rule" 1309 2217 809 1 [] .none "law_sq0076_01" 2096++fB (X 143) "_law_small" "_law_small" 1314 2223 814 2 ["heap","way","n","sort","row"] .none "law_sq0076_01" 2096++fB (X 144) "_law_part" "_law_part" 1321 2234 822 3 [] .none "law_sq0076_01" 2096++fB (X 145) "_law_list" "_law_list" 1326 2240 845 4 [] .none "law_sq0076_01" 2096++fB (X 146) "_law_rows" "_law_rows" 1331 2246 847 4 [] .none "law_sq0076_01" 2096++fB (X 147) "law" "law" 1336 2252 859 1 ["script","heap","names","tools","whole_one","depth","breadth","as_was"] .none "law_sq0076_01" 2096
noncomputable def T50(P:Params):BT:=puts (wr (wr (T49 P) 3 (go3 P (kS "law_sq0076_01" 2096) 204)) 12 (po12 318)) 1288 (L50 P)
noncomputable def envH:Env:={scope:=PySem.Challenge.pw_sq0076_01.main.scope,locals:=mainNs,globals:=mainNs,cells:=[],code:=.ref 13,frame:=some 14}
noncomputable abbrev HS(T:Params->BT)(n toks:Nat)(w:World)(os:OsState):SharedT:=⟨T w.params,n,lf,Array.mk [],boot_drawn,toks,os⟩
noncomputable abbrev Bq:List Frame:=[topFrame ⟨0,0,0,0⟩]
end
section
open PySem PySem.Spec PySem.Calls PyProof.Rows PySem.W
noncomputable def pk:Nat->List Obj->List Nat->Frag
 |n,o::l,i::r=>match Nat.beq n i with
  |true=>(n,o)::pk (n+1) l r
  |false=>pk (n+1) l (i::r)
 |_,_,_=>[]
noncomputable def frag(P:Params):Frag:=[(0,boot_o_0 P),(3,go3 P (kS "law_sq0076_01" 2096) 204),(4,boot_o_4 P),(39,kT "PageError" 39 [.type "ValueError"] tlV 38 [kR 52,kR 64,kR 76,kR 88,kR 100,kR 112] (some (kR 22)) 196 204 "ValueError.__new__")]++pk 15 (L2 P) [20,21,22,29,35,36,37,38,40]++pk 43 (L3 P) [43,50,51,52]++pk 55 (L4 P) [55,62,63,64]++pk 67 (L5 P) [67,74,75,76]++pk 79 (L6 P) [79,86,87,88]++pk 91 (L7 P) [91,98,99,100]++pk 103 (L8 P) [103,110,111,112]++pk 119 (L10 P) [124,125,131,132,138,139,145,146,152,153,159,160,166,167,173,174,180,181]++pk 182 (L11 P) [189,195,196,202,203,209,210,216,217,223,224,230,231,237,238,239,245,246,247,248,249,250,251]++pk 254 (L12 P) [259,260]++pk 261 (L13 P) [273,274,280,281,287,288,294,295,301,302,308,309,310,311,312,313,314]++pk 341 (L17 P) [346,347,353,354,367,368,369,370,371,372,373]++pk 376 (L18 P) [383,387,388,389,390,391,392,393]++pk 396 (L19 P) [408,409,410,411,412,413,414]++pk 417 (L20 P) [429,430,431,432,433,434,435]++pk 438 (L21 P) [450,451,452,453,454,455,456]++pk 459 (L22 P) [466,472,473,474,475,476,477,478]++pk 481 (L23 P) [493,494,495,496,497,498,499]++pk 502 (L24 P) [514,515,516,517,518,519,520]++pk 523 (L25 P) [535,536,537,538,539,540,541]++pk 544 (L26 P) [556,557,558,559,560,561,562]++pk 565 (L27 P) [577,578,579,580,581,582,583]++pk 586 (L28 P) [598,599,600,601,602,603,604]++pk 607 (L29 P) [619,620,621,622,623,624,625]++pk 628 (L30 P) [640,641,642,643,644,645,646]++pk 649 (L31 P) [661,662,663,664,665,666,667]++pk 670 (L32 P) [682,683,684,685,686,687,688]++pk 691 (L33 P) [698,704,705,706,707,708,709,710,718,719,723,724,730,731,732,736,737,738,742,743]++pk 756 (L37 P) [756,757,758]++pk 760 (L39 P) [765,766,772,773]++pk 774 (L40 P) [781,787,788,794,795,801,802,808,809,815,816,817,818,819,820,821,829,830]++pk 831 (L41 P) [831,837,838,844,845,846,852,853,859,860,861,867,868,869,875,876]++pk 881 (L43 P) [881,894,895,896,897,898,899,900,908,909,915,916,922,923]++pk 924 (L44 P) [929,930,936,937,943,944,950,951,957,958,964,965,971,972,976,977,983,984,990,991,995,996,1002,1003,1009,1010]++pk 1011 (L45 P) [1016,1017,1023,1024,1030,1031,1037,1038,1044,1045,1046,1052,1053]++pk 1062 (L47 P) [1062,1063,1069,1070,1076,1077,1083,1084,1090,1091,1097,1098,1104,1105,1111,1112]++pk 1113 (L48 P) [1120,1121,1122,1128,1129,1135,1136,1142,1143,1149,1150,1156,1157,1163,1164,1170,1171,1177,1178,1184,1185,1191,1192,1198,1199,1200,1201,1202,1203,1204]++pk 1207 (L49 P) [1212,1213,1214,1215,1216,1222,1223,1229,1230,1236,1237,1243,1244,1250,1251,1257,1258,1264,1265,1271,1272,1276,1277,1281,1282,1286,1287]++pk 1288 (L50 P) [1293,1294,1300,1301,1307,1308,1312,1313,1319,1320,1324,1325,1329,1330,1334,1335,1341,1342]
noncomputable def dS(s:Stmt)(dv:List Value):FnD:=match s with
 | .FunctionDef _ a b _ _ _ sc .. =>⟨a.args.map (·.arg),dv,sc,b⟩
 |_=>⟨[],[],default,[]⟩
noncomputable def d36:FnD:=dS (Y 2 0) [(.str "" 208)]
noncomputable def e36:FnE:=⟨36,d36,[.str (wS "")],[]⟩
noncomputable def d125:FnD:=dS (X 14) []
noncomputable def e125:FnE:=⟨125,d125,[],[]⟩
noncomputable def d139:FnD:=dS (X 16) []
noncomputable def e139:FnE:=⟨139,d139,[],[]⟩
noncomputable def d146:FnD:=dS (X 17) []
noncomputable def e146:FnE:=⟨146,d146,[],[]⟩
noncomputable def d167:FnD:=dS (X 20) []
noncomputable def e167:FnE:=⟨167,d167,[],[]⟩
noncomputable def d246:FnD:=dS (Y 23 7) [(.str "pt" 494)]
noncomputable def e246:FnE:=⟨246,d246,[.str (wS "pt")],[]⟩
noncomputable def d274:FnD:=dS (Y 25 0) []
noncomputable def e274:FnE:=⟨274,d274,[],[]⟩
noncomputable def d354:FnD:=dS (X 35) []
noncomputable def e354:FnE:=⟨354,d354,[],[]⟩
noncomputable def d719:FnD:=dS (X 53) []
noncomputable def e719:FnE:=⟨719,d719,[],[]⟩
noncomputable def d737:FnD:=dS (X 56) [(.int 0 1274)]
noncomputable def e737:FnE:=⟨737,d737,[.int 0],[]⟩
noncomputable def d743:FnD:=dS (X 57) [(.int 0 1281)]
noncomputable def e743:FnE:=⟨743,d743,[.int 0],[]⟩
noncomputable def d788:FnD:=dS (Y 69 0) [(.int 1048576 1334)]
noncomputable def e788:FnE:=⟨788,d788,[.int 1048576],[]⟩
noncomputable def d895:FnD:=dS (Y 85 0) []
noncomputable def e895:FnE:=⟨895,d895,[],[]⟩
noncomputable def d937:FnD:=dS (X 90) []
noncomputable def e937:FnE:=⟨937,d937,[],[]⟩
noncomputable def d1038:FnD:=dS (X 105) []
noncomputable def e1038:FnE:=⟨1038,d1038,[],[]⟩
noncomputable def d1045:FnD:=dS (X 106) []
noncomputable def e1045:FnE:=⟨1045,d1045,[],[]⟩
noncomputable def d1053:FnD:=dS (X 107) [(.int 20 1557),(.int 100 1558),.none,(.int 92 1807)]
noncomputable def e1053:FnE:=⟨1053,d1053,[.int 20,.int 100,.none,.int 92],[]⟩
noncomputable def d1091:FnD:=dS (X 121) []
noncomputable def e1091:FnE:=⟨1091,d1091,[],[]⟩
noncomputable def d1098:FnD:=dS (X 122) []
noncomputable def e1098:FnE:=⟨1098,d1098,[],[]⟩
noncomputable def d1105:FnD:=dS (X 123) []
noncomputable def e1105:FnE:=⟨1105,d1105,[],[]⟩
noncomputable def d1244:FnD:=dS (X 131) []
noncomputable def e1244:FnE:=⟨1244,d1244,[],[]⟩
noncomputable def d1251:FnD:=dS (X 132) []
noncomputable def e1251:FnE:=⟨1251,d1251,[],[]⟩
noncomputable def d1258:FnD:=dS (X 133) []
noncomputable def e1258:FnE:=⟨1258,d1258,[],[]⟩
noncomputable def d1265:FnD:=dS (X 134) []
noncomputable def e1265:FnE:=⟨1265,d1265,[],[]⟩
noncomputable def d1272:FnD:=dS (X 135) []
noncomputable def e1272:FnE:=⟨1272,d1272,[],[]⟩
noncomputable def d1277:FnD:=dS (X 136) []
noncomputable def e1277:FnE:=⟨1277,d1277,[],[]⟩
noncomputable def d1282:FnD:=dS (X 137) []
noncomputable def e1282:FnE:=⟨1282,d1282,[],[]⟩
noncomputable def d1287:FnD:=dS (X 138) []
noncomputable def e1287:FnE:=⟨1287,d1287,[],[]⟩
noncomputable def d1294:FnD:=dS (X 139) []
noncomputable def e1294:FnE:=⟨1294,d1294,[],[]⟩
noncomputable def d1301:FnD:=dS (X 140) []
noncomputable def e1301:FnE:=⟨1301,d1301,[],[]⟩
noncomputable def d1308:FnD:=dS (X 141) []
noncomputable def e1308:FnE:=⟨1308,d1308,[],[]⟩
noncomputable def d1313:FnD:=dS (X 142) []
noncomputable def e1313:FnE:=⟨1313,d1313,[],[]⟩
noncomputable def d1320:FnD:=dS (X 143) []
noncomputable def e1320:FnE:=⟨1320,d1320,[],[]⟩
noncomputable def d1325:FnD:=dS (X 144) []
noncomputable def e1325:FnE:=⟨1325,d1325,[],[]⟩
noncomputable def d1330:FnD:=dS (X 145) []
noncomputable def e1330:FnE:=⟨1330,d1330,[],[]⟩
noncomputable def d1335:FnD:=dS (X 146) []
noncomputable def e1335:FnE:=⟨1335,d1335,[],[]⟩
noncomputable def d1342:FnD:=dS (X 147) []
noncomputable def e1342:FnE:=⟨1342,d1342,[],[]⟩
noncomputable def fE(n:Nat)(s:Stmt):FnE:=⟨n,dS s [],[],[]⟩
noncomputable def fns:List FnE:=[fE 21 (X 0),e36,e125,fE 132 (X 15),e139,e146,fE 153 (X 18),fE 160 (X 19),e167,fE 174 (X 21),fE 181 (X 22),⟨196,dS (Y 23 0) [(.int 0 431),(.int 0 432),(.int 0 433),(.int 0 434),(.int 0 435)],[.int 0,.int 0,.int 0,.int 0,.int 0],[]⟩,fE 203 (Y 23 1),fE 210 (Y 23 2),fE 217 (Y 23 3),fE 224 (Y 23 4),fE 231 (Y 23 5),fE 238 (Y 23 6),e246,fE 260 (X 24),e274,fE 281 (Y 25 1),fE 288 (Y 25 2),fE 295 (Y 25 3),fE 302 (Y 25 4),fE 309 (Y 25 5),fE 347 (X 34),e354,fE 368 (Y 36 1),⟨388,dS (Y 37 1) [(.bool false),(.bool false)],[.bool false,.bool false],[]⟩,fE 409 (Y 38 0),fE 430 (Y 39 1),fE 451 (Y 40 1),⟨473,dS (Y 41 1) [.none],[.none],[]⟩,fE 494 (Y 42 1),fE 515 (Y 43 1),fE 536 (Y 44 1),fE 557 (Y 45 1),fE 578 (Y 46 1),fE 599 (Y 47 1),fE 620 (Y 48 2),fE 641 (Y 49 2),fE 662 (Y 50 2),fE 683 (Y 51 2),⟨705,dS (Y 52 1) [(.bool false)],[.bool false],[]⟩,e719,fE 724 (X 54),fE 731 (X 55),e737,e743,fE 766 (X 67),fE 773 (X 68),e788,fE 795 (Y 69 1),fE 802 (Y 69 2),fE 809 (Y 69 3),fE 816 (Y 69 4),fE 830 (X 70),⟨838,dS (X 71) [.none],[.none],[]⟩,fE 845 (X 72),⟨853,dS (X 73) [(.int 92 1506)],[.int 92],[]⟩,fE 860 (X 74),⟨868,dS (X 75) [(.int 92 1523),.none],[.int 92,.none],[]⟩,⟨876,dS (X 76) [(.int 92 1537),.none],[.int 92,.none],["found"]⟩,e895,fE 909 (X 86),fE 916 (X 87),fE 923 (X 88),fE 930 (X 89),e937,fE 944 (X 91),fE 951 (X 92),fE 958 (X 93),fE 965 (X 94),fE 972 (X 95),fE 977 (X 96),fE 984 (X 97),fE 991 (X 98),fE 996 (X 99),fE 1003 (X 100),fE 1010 (X 101),fE 1017 (X 102),fE 1024 (X 103),fE 1031 (X 104),e1038,e1045,e1053,fE 1070 (X 118),fE 1077 (X 119),fE 1084 (X 120),e1091,e1098,e1105,fE 1112 (X 124),⟨1129,dS (Y 125 0) [(.ref 1120),(.ref 1121),(.int 256 1823)],[.tup [],.tup [],.int 256],[]⟩,fE 1136 (Y 125 1),fE 1143 (Y 125 2),fE 1150 (Y 125 3),fE 1157 (Y 125 4),fE 1164 (Y 125 5),fE 1171 (Y 125 6),fE 1178 (Y 125 7),fE 1185 (Y 125 8),fE 1192 (Y 125 9),fE 1199 (Y 125 10),fE 1213 (X 126),⟨1223,dS (X 127) [(.ref 1063),(.ref 1214),(.ref 1215),(.int 256 1823)],[.tup [.int 0,.int 196608,.int 98304,.int 65536,.int 262144,.int 655360,.int 65536],.tup [],.tup [],.int 256],[]⟩,fE 1230 (X 129),fE 1237 (X 130),e1244,e1251,e1258,e1265,e1272,e1277,e1282,e1287,e1294,e1301,e1308,e1313,e1320,e1325,e1330,e1335,e1342]
noncomputable def mks:List (Addr × Addr):=[(249,196),(312,274),(371,368),(391,388),(412,409),(433,430),(454,451),(476,473),(497,494),(518,515),(539,536),(560,557),(581,578),(602,599),(623,620),(644,641),(665,662),(686,683),(708,705),(819,788),(898,895),(1202,1129)]
noncomputable def upk:Nat->Nat->List Nat
 |0,_=>[]
 |k+1,n=>cond (Nat.beq n 0) [] (n % 128::upk k (n / 128))
noncomputable def nS(n:Nat):Str:=⟨⟨upk 40 n⟩⟩
noncomputable abbrev gE(n:Nat)(v:V):Str × V:=(nS n,v)
noncomputable def gtab:List (Str × V):=[gE 29219126239 (.con (.ref 21)),gE 8277558478201549008 (.con (.ref 39)),gE 137970538623957724639426 (.con (.ref 52)),gE 67482966092774223 (.con (.ref 64)),gE 17347509783169892928270530 (.con (.ref 76)),gE 513982911295682 (.con (.ref 88)),gE 496078799239124 (.con (.ref 100)),gE 460830021515220 (.con (.ref 112)),gE 24068122453 (.int 65536),gE 5659677058040996045 (.int 1073741823),gE 761325977298932211917 (.int 2147483647),gE 2628951254990 (.int 0),gE 1254598 (.int 1),gE 160638150 (.int 2),gE 20561732806 (.int 3),gE 57336776418130409 (.con (.ref 125)),gE 120243935338832865096803 (.con (.ref 132)),gE 17347344494290508956922979 (.con (.ref 139)),gE 130804552685230577251427 (.con (.ref 146)),gE 443302060849138 (.con (.ref 153)),gE 456806758904562 (.con (.ref 160)),gE 17672035352113440095793892 (.con (.ref 167)),gE 1078615438973386439023 (.con (.ref 174)),gE 8426683116983988464 (.con (.ref 181)),gE 213743175 (.con (.ref 249)),gE 8271867417278035956 (.con (.ref 260)),gE 3980566280148 (.con (.ref 312)),gE 173040707 (.int 0),gE 39207129863808204 (.int 1),gE 185852232 (.int 2),gE 185852246 (.int 3),gE 145959634 (.int 4),gE 164930251 (.int 5),gE 146105927 (.int 6),gE 394332896207568 (.int 7),gE 141878468 (.int 8),gE 158638285 (.int 9),gE 2908375803721 (.int 10),gE 2908677644865 (.int 11),gE 1068022388219859771597 (.int 12),gE 336504655276115 (.int 13),gE 22694651733 (.int 14),gE 336507109187790 (.int 0),gE 4939078925511076435 (.int 1),gE 2598097953875 (.int 2),gE 5666960299007387590 (.int 0),gE 47611175341665349 (.int 1),gE 92847477538937017262529 (.int 2),gE 345883807312589 (.int 3),gE 21092132432 (.int 0),gE 47087875160892993 (.int 1),gE 47087875160892995 (.int 2),gE 47087875160893016 (.int 3),gE 354372290079437 (.int 4),gE 6098197788514035662 (.int 5),gE 18399584462 (.int 100),gE 641282005311396554694 (.int 0),gE 314961135036759 (.int 1),gE 314961122388047 (.int 2),gE 314961133037123 (.int 3),gE 372306456175300 (.int 60),gE 938829261270666540131 (.con (.ref 347)),gE 138008149864222977258595 (.con (.ref 354)),gE 240677955 (.con (.ref 371)),gE 57363374030845132 (.con (.ref 391)),gE 1980354 (.con (.ref 412)),gE 213596882 (.con (.ref 433)),gE 232567499 (.con (.ref 454)),gE 236615123 (.con (.ref 476)),gE 536178553762512 (.con (.ref 497)),gE 209515716 (.con (.ref 518)),gE 226275533 (.con (.ref 539)),gE 4016545003337 (.con (.ref 560)),gE 4016846844481 (.con (.ref 581)),gE 57314398802096333 (.con (.ref 602)),gE 478350312831059 (.con (.ref 623)),gE 27356985687 (.con (.ref 644)),gE 514214923434063 (.con (.ref 665)),gE 65819507812988483 (.con (.ref 686)),gE 31352223573 (.con (.ref 708)),gE 123859567462461231166563 (.con (.ref 719)),gE 564736371095939314962246643295777508 (.con (.ref 724)),gE 289441910781699933433709261540 (.con (.ref 731)),gE 7263051996230120164 (.con (.ref 737)),gE 289442508161060016443828794084 (.con (.ref 743)),gE 2392434207173 (.int 0),gE 21092229826 (.int 1),gE 1124165 (.int 2),gE 136789945851393718165709 (.int 3),gE 1089748 (.int 4),gE 2702250943186 (.int 5),gE 5947938085432238288 (.int 6),gE 10325 (.int 7),gE 165013444 (.int 8),gE 301460163371977 (.int 9),gE 18663630931 (.int 10),gE 2836198138572 (.int 11),gE 22157601359 (.int 12),gE 2394061873601 (.int 13),gE 372134651324355 (.int 14),gE 301595962484553 (.int 15),gE 336988143331267 (.int 0),gE 1387215 (.int 5),gE 19469246669 (.int 9),gE 2698771687750 (.int 14),gE 10357963135291323520985038 (.int 15),gE 770555488772738574285 (.int 1048576),gE 98630461877485032202956 (.tup [.int 0,.int 0,.int 0,.int 0,.int 0,.int 1,.int 0,.int 0,.int 0,.int 1,.int 0,.int 0,.int 0,.int 0,.int 0,.int 0]),gE 206843070387291490395937139015 (.tup [.int 1048575,.int 255,.int 255,.int 255,.int 255,.int 9,.int 255,.int 255,.int 255,.int 9,.int 255,.int 255,.int 255,.int 255,.int 255,.int 0]),gE 207136223249424084336339134277 (.tup [.str (wS "endtemplate"),.str (wS "endoutput"),.str (wS "endlist"),.str (wS "beginentry"),.str (wS "relax")]),gE 62372404107147753 (.con (.ref 766)),gE 1078615438971503211619 (.con (.ref 773)),gE 31083688142 (.con (.ref 819)),gE 301803466588697498490158741104 (.con (.ref 830)),gE 8271937852084320745 (.con (.ref 838)),gE 138062776188149733849573 (.con (.ref 845)),gE 8426683116952449262 (.con (.ref 853)),gE 2262020525070031737847363429 (.con (.ref 860)),gE 1021909468891517285491 (.con (.ref 868)),gE 136789945851393817179251 (.con (.ref 876)),gE 670180966376353884109 (.int 60),gE 10980133984920523733526477 (.int 10000),gE 19504833220 (.int 20),gE 319563957889346 (.int 100),gE 733954171788584085453 (.int 20000),gE 91510092485834472482765 (.int 15),gE 1387203 (.str (wS " []")),gE 770555488772730021331 (.tup [.str (wS "lineskip"),.str (wS "baselineskip"),.str (wS "parskip"),.str (wS "abovedisplayskip"),.str (wS "belowdisplayskip"),.str (wS "leftskip"),.str (wS "rightskip"),.str (wS "topskip"),.str (wS "splittopskip"),.str (wS "tabskip"),.str (wS "spaceskip"),.str (wS "xspaceskip"),.str (wS "parfillskip"),.str (wS "abovedisplayshortskip"),.str (wS "belowdisplayshortskip"),.str (wS "thinmuskip"),.str (wS "medmuskip"),.str (wS "thickmuskip")]),gE 456806798980179 (.con (.ref 898)),gE 1078615438973923570159 (.con (.ref 909)),gE 8426683116983924710 (.con (.ref 916)),gE 7346962664116665074 (.con (.ref 923)),gE 1078615438973655233779 (.con (.ref 930)),gE 65833461851435763 (.con (.ref 937)),gE 65833461851502562 (.con (.ref 944)),gE 8426683116967113443 (.con (.ref 951)),gE 7339608958574425587 (.con (.ref 958)),gE 8426683116975453683 (.con (.ref 965)),gE 8426683116971406059 (.con (.ref 972)),gE 2262020525066654727204893932 (.con (.ref 977)),gE 138062776188420593859187 (.con (.ref 984)),gE 138062776188630241834996 (.con (.ref 991)),gE 17672035352113439009503347 (.con (.ref 996)),gE 138062776188665675446121 (.con (.ref 1003)),gE 8426683116952351333 (.con (.ref 1010)),gE 8426683116948354276 (.con (.ref 1017)),gE 8426683116952303598 (.con (.ref 1024)),gE 57912373702096108 (.con (.ref 1031)),gE 1068027991262456526830 (.con (.ref 1038)),gE 1068027991262488229100 (.con (.ref 1045)),gE 8343968681738254306 (.con (.ref 1053)),gE 145875525 (.int 256),gE 771636976931034163149 (.int 255),gE 98704034360539082975181 (.int 64),gE 5022963419357439949 (.int 134217727),gE 780716815176359241296 (.int 0),gE 12791264299844801437886800 (.int 1),gE 99931752342710360776908 (.int 2),gE 99931752342744711914704 (.int 3),gE 5806035600651053651 (.int 128),gE 354583806517963 (.int 128),gE 143680204 (.int 255),gE 12473730100943986401732558 (.tup [.int 0,.int 0,.int 0,.int 0,.int 0,.int 0]),gE 367874058560204 (.str (wS "abcdefghjklmnopqrstuvwxyz")),gE 12634116398149000458430163 (.tup [.int 0,.int 196608,.int 98304,.int 65536,.int 262144,.int 655360,.int 65536]),gE 448423014169065 (.con (.ref 1070)),gE 136708447603510824498275 (.con (.ref 1077)),gE 17498468861907018807080035 (.con (.ref 1084)),gE 136826549366820290786403 (.con (.ref 1091)),gE 17347390960170868258993251 (.con (.ref 1098)),gE 2123160400485887347577680995 (.con (.ref 1105)),gE 1078180842291471168236 (.con (.ref 1112)),gE 245086150 (.con (.ref 1202)),gE 7339608958582896614 (.con (.ref 1213)),gE 17519831122620163531978726 (.con (.ref 1223)),gE 136826835411913902945887 (.con (.ref 1230)),gE 1068027393196888192607 (.con (.ref 1237)),gE 8125504479592740447 (.con (.ref 1244)),gE 7338483264840562271 (.con (.ref 1251)),gE 7411103396515051103 (.con (.ref 1258)),gE 135526128861644626359903 (.con (.ref 1265)),gE 8637819654812235359 (.con (.ref 1272)),gE 1068034746902453450335 (.con (.ref 1277)),gE 68045570580182623 (.con (.ref 1282)),gE 7843466381129971295 (.con (.ref 1287)),gE 135527429768549519357535 (.con (.ref 1294)),gE 7340233137596167775 (.con (.ref 1301)),gE 8130034845456299615 (.con (.ref 1308)),gE 7339134107004728927 (.con (.ref 1313)),gE 1003961489646086026847 (.con (.ref 1320)),gE 8423287687644477023 (.con (.ref 1325)),gE 8423885684531033695 (.con (.ref 1330)),gE 8354106484744287839 (.con (.ref 1335)),gE 1962220 (.con (.ref 1342)),gE 1896801 (.con (.builtin "abs")),gE 1815276 (.con (.builtin "len")),gE 938756632654307293673 (.con (.builtin "isinstance")),gE 3466000708836 (.con (.builtin "divmod")),gE 1881187 (.con (.builtin "chr")),gE 1653103 (.con (.builtin "ord")),gE 1914729 (.con (.type "int")),gE 228325346 (.con (.type "bool")),gE 1882739 (.con (.type "str")),gE 27340323572 (.con (.type "tuple")),gE 245167340 (.con (.type "list")),gE 31083805922 (.con (.type "bytes")),gE 8774080344635555042 (.con (.type "bytearray")),gE 27329802482 (.con (.type "range")),gE 244905188 (.con (.type "dict"))]
noncomputable def absT:List (Addr × List Str):=[(249,[nS 28162209015,nS 460829803461235,nS 2220462502128536264158001779,nS 3706241987699,nS 17347363297879295572882547]),(312,[nS 478352766742766,nS 460829803461235,nS 3706241987699]),(371,[nS 245086182,nS 213465059]),(391,[nS 245086182,nS 213465059,nS 31115227376,nS 244953836,nS 31358317810]),(412,[nS 211530987,nS 28162209015,nS 4013864678120,nS 28162405092,nS 31100336745,nS 31354156147,nS 232387827,nS 30815107439,nS 30018449650]),(433,[nS 28162209015,nS 4013864678120,nS 28162405092]),(454,[nS 28162209015,nS 245151731]),(476,[nS 213743207,nS 245151731,nS 3944333472492]),(497,[nS 27359129846]),(518,[nS 1669488,nS 245168112,nS 3499535971565]),(539,[nS 3981111392244]),(560,[nS 3944329476846,nS 213824755,nS 28162405092,nS 1849332,nS 245168099,nS 31100336745]),(581,[nS 31100336745]),(602,[nS 29762255337,nS 28162209015]),(623,[nS 3982722150895]),(644,[nS 3771463416435,nS 3981111392244]),(665,[nS 3771463416435,nS 213610734]),(686,[nS 3771463416435]),(708,[nS 28162209015,nS 4013864678120,nS 28162405092,nS 31100336745,nS 31102367859,nS 3980566280180,nS 128405755450727964604905]),(819,[nS 245168109,nS 509719678253806,nS 31115326196]),(898,[nS 31115163622,nS 31083688174,nS 213465059,nS 3500603406821,nS 28162405092,nS 461409615444322]),(1202,[nS 3944329476846,nS 213610734,nS 213824755,nS 3807442170596,nS 28931880035,nS 3980834681072,nS 31110755427,nS 482750783814000,nS 31102644971,nS 68621681637029858,nS 1078180842291439727205,nS 135489661992806456769768,nS 8269632690009503219])]
noncomputable def cvT:List (Addr × List (Str × V)):=[(249,[]),(312,[]),(371,[(nS 211530987,.int 0)]),(391,[(nS 211530987,.int 1)]),(412,[]),(433,[(nS 211530987,.int 4)]),(454,[(nS 211530987,.int 5)]),(476,[(nS 211530987,.int 6)]),(497,[(nS 211530987,.int 7)]),(518,[(nS 211530987,.int 8)]),(539,[(nS 211530987,.int 9)]),(560,[(nS 211530987,.int 10)]),(581,[(nS 211530987,.int 11)]),(602,[(nS 211530987,.int 12)]),(623,[(nS 211530987,.int 13),(nS 245151731,.int 0)]),(644,[(nS 211530987,.int 13),(nS 245151731,.int 1)]),(665,[(nS 211530987,.int 13),(nS 245151731,.int 2)]),(686,[(nS 211530987,.int 13),(nS 245151731,.int 3)]),(708,[(nS 211530987,.int 14)]),(819,[]),(898,[]),(1202,[])]
noncomputable def meT:List (Addr × List (Str × Addr)):=[(249,[(nS 31115227376,203),(nS 213610739,210),(nS 27057009249,217),(nS 31083689204,224),(nS 240745327,231),(nS 443306328322798,238),(nS 245248756,246)]),(312,[(nS 1651297,281),(nS 29741364471,288),(nS 133258468438424724224627,295),(nS 1041081784781202306163,302),(nS 255604707,309)]),(371,[]),(391,[]),(412,[]),(433,[]),(454,[]),(476,[]),(497,[]),(518,[]),(539,[]),(560,[]),(581,[]),(602,[]),(623,[]),(644,[]),(665,[]),(686,[]),(708,[]),(819,[(nS 211530982,795),(nS 3944329476846,802),(nS 245248756,809),(nS 31371130851,816)]),(898,[]),(1202,[(nS 1896680,1136),(nS 28162209015,1143),(nS 4013864678120,1150),(nS 28162405092,1157),(nS 3430027917929,1164),(nS 3982749104755,1171),(nS 3944340041964,1178),(nS 3978691179760,1185),(nS 29464768752,1192),(nS 7909388636078813939,1199)])]
structure IsX(X:Cx):Prop where
 k:X.K=frag X.w.params
 lp:X.lp=true
noncomputable def ecF:Ec:=⟨gtab,absT,cvT,meT,absT,false⟩
noncomputable def ecT:Ec:=⟨gtab,absT,cvT,meT,absT,true⟩
noncomputable def fnP(K:Frag)(a:Addr):Option {D:Scope × List Stmt // Fn0 K a D.1 D.2}:=onS (K.lookup a) λo ho=>match o,ho with
 |⟨_,_,.func fd,_⟩,ho=>match h5:fd.body with
  | .stmts body=>onP (nilK fd.closure) λx0 h6=>onT (Nat.beq fd.globals mainGlobals) λg1=>onT (Nat.beq fd.builtins builtinsNs) λg2=>onT (codeIn K fd.code fd.qualname) λg3=>onT (keepIn K (.ref a)) λg4=>some ⟨(fd.scope,body),⟨_,fd,ho,rfl,h5,rfl,Nat.eq_of_beq_eq_true g1,h6,Nat.eq_of_beq_eq_true g2,g3⟩,g4⟩
  |_=>none
 |_,_=>none
noncomputable def fnOf(K:Frag)(a:Addr):Option (Scope × List Stmt):=valO (fnP K a)
theorem x0x{K:Frag}{a:Addr}{D:Scope × List Stmt}(h:fnOf K a=some D):Fn0 K a D.1 D.2:=a0t (P:=λD:Scope × List Stmt=>Fn0 K a D.1 D.2) h
noncomputable def ars(D:FnD):List Nat:=(List.range (D.dv.length+1)).map (· +(D.names.length - D.dv.length))
theorem y0i{D:FnD}{n:Nat}(h1:n≤D.names.length)(h2:D.names.length≤n+D.dv.length):n∈ars D:=List.mem_map.mpr ⟨n - (D.names.length - D.dv.length),List.mem_range.mpr (by lia),Nat.sub_add_cancel (Nat.sub_le_of_le_add h2)⟩
theorem j0h(d:Value):∀l:List Value,(List.range l.length).map (λi=>l.getD i d)=l
 |[]=>rfl
 |x::l=>by
  rw[List.length_cons,List.range_succ_eq_map,List.map_cons,List.map_map]
  exact congrArg (x::·) (j0h d l)
theorem h0d:∀{w:Wd}{l:List Nat},wlit w=some l->wok w
 |[],_,_=>trivial
 | .c n::r,l,e=>by
  unfold wlit at e
  cases h:wlit r with
  |none=>rw[h] at e;cases e
  |some k=>exact⟨trivial,h0d h⟩
 | .h _ _::_,_,e=>by cases e
noncomputable abbrev RdOK(K:Frag)(v:Value)(y:V):Prop:=∀(X:Cx)(f:FH),X.K=K->BaseIn X f->VR X f v y
noncomputable abbrev RdsOK(K:Frag)(vl:List Value)(l:List V):Prop:=∀(X:Cx)(f:FH),X.K=K->BaseIn X f->VRs X f vl l
noncomputable def vsP(K:Frag)(c:∀v y,Ok (RdOK K v y)):(vl:List Value)->(l:List V)->Ok (RdsOK K vl l)
 |[],[]=>okY λx0 x0 x0 x0=>.nil
 |v::r,y::l=>onP (c v y) λx0 h=>onP (vsP K c r l) λx0 h'=>okY λX f e b=>.cons (h X f e b) (h' X f e b)
 |_,_=>none
noncomputable def vStep(K:Frag)(rc:(v:Value)->(y:V)->Ok (RdOK K v y))(v:Value)(y:V):Ok (RdOK K v y):=match y with
  | .con u=>onT (v==u) λh=>okY λx0 x0 x0 x0=>by rw[eq_of_beq h];exact .con _
  | .any=>okY λx0 x0 x0 x0=>.any _
  | .none=>match v with
   | .none=>okY λx0 x0 x0 x0=>.none
   |_=>none
  | .int j=>match v with
   | .int i _=>onT (ieq i j) λh=>okY λx0 x0 x0 x0=>by rw[a0j h];exact .int _ _
   |_=>none
  | .bool b=>match v with
   | .bool c=>onT (c==b) λh=>okY λx0 x0 x0 x0=>by rw[eq_of_beq h];exact .bool _
   |_=>none
  | .str w=>match v with
   | .str s t=>onS (wlit w) λl hl=>onT (leq l s.cps.toList) λh=>okY λx0 x0 x0 x0=>by
    rw[←show wden w=s from b0k (by rw[a0i,a0x hl];exact(b0r _ _).mp h)]
    exact .str _ (h0d hl)
   |_=>none
  | .tup l=>match v with
   | .ref a=>onS (K.lookup a) λo ho=>match o,ho with
    |⟨.type "tuple",none,.seq items 0,sl⟩,ho=>onP (nilK sl.toList) λx0 hsl=>onP (vsP K rc items.toList l) λx0 h=>okY λX f e b=>by
     have q:sl= #[]:=by cases sl;simpa using hsl
     subst q
     exact .tup (vs:=items.toList) (b _ _ (by rw[e];exact ho)) (h X f e b)
    |_,_=>none
   |_=>none
  |_=>none
noncomputable def vP(K:Frag):Nat->(v:Value)->(y:V)->Ok (RdOK K v y)
 |0,_,_=>none
 |n+1,v,y=>vStep K (vP K n) v y
noncomputable def vOks(K:Frag)(n:Nat)(vl:List Value)(l:List V):Bool:=okO (vsP K (vP K n) vl l)
theorem y0f{X:Cx}{f:FH}(hb:BaseIn X f)(n:Nat)(vl:List Value)(l:List V)(h:vOks X.K n vl l=true):VRs X f vl l:=c0c h X f rfl hb
noncomputable def allB{α:Type}(p:α->Bool):List α->Bool
 |[]=>true
 |x::r=>match p x with
  |true=>allB p r
  |false=>false
theorem a0o{α:Type}{p:α->Bool}:∀{l:List α},allB p l=true->∀x∈l,p x=true
 |y::r,h,x,hx=>by
  cases q:p y with
  |false=>rw[show allB p (y::r)=false from by show(match p y with|true=>_|false=>_)=_;rw[q]] at h;cases h
  |true=>
   rw[show allB p (y::r)=allB p r from by show(match p y with|true=>_|false=>_)=_;rw[q]] at h
   exact(List.mem_cons.mp hx).elim (λe=>e▸q) (a0o h x)
noncomputable def andB(a b:Bool):Bool:=match a with
 |true=>b
 |false=>false
theorem e0j{a b:Bool}(h:andB a b=true):a=true∧b=true:=by cases a<;>first|exact⟨rfl,h⟩|cases h
noncomputable def mkP(K:Frag)(p:Addr × Addr):Ok (Mk K p.1 p.2):=onT (makesIn K p.1) λh1=>onT (keepIn K (.ref p.1)) λh4=>match h2:findIn K (.ref p.1) "__init__",h3:typeIn K (.ref p.2) with
 |some (some (.ref g)),some (.type "function")=>onT (Nat.beq g p.2) λq=>okY (by
  cases Nat.eq_of_beq_eq_true q
  exact⟨h1,h2,h3,h4⟩)
 |_,_=>none
noncomputable def mkChk(K:Frag)(p:Addr × Addr):Bool:=okO (mkP K p)
theorem u0a{K:Frag}{p:Addr × Addr}(h:mkChk K p=true):Mk K p.1 p.2:=c0c h
noncomputable abbrev GOK(K:Frag)(p:Str × V):Prop:=∃v,globalIn K p.1=some v∧RdOK K v p.2
noncomputable def getQ(x:Str)(es:List DictEntry):Option Value:=@List.rec DictEntry (λ_=>Option Value) none (λe _ ih=>@Bool.rec (λ_=>Option Value) ih (some e.val) (PySem.W.Fast.tw995047462949696687 e.key x)) es
theorem q0o{x:Str}{v:Value}:∀{es:List DictEntry},getQ x es=some v->∃e,es.find? (·.key.isStr x)=some e∧e.val=v
 |e::es,h=>by
  have h: @Bool.rec (λ_=>Option Value) (getQ x es) (some e.val) (PySem.W.Fast.tw995047462949696687 e.key x)=some v:=h
  rw[←PySem.W.Fast.te995047462949696687] at h
  rw[List.find?_cons]
  cases q:e.key.isStr x with
  |true=>rw[q] at h;exact⟨e,rfl,Option.some.inj h⟩
  |false=>rw[q] at h;exact q0o h
noncomputable def globQ(K:Frag)(x:Str):Option Value:=match K.lookup mainGlobals with
 |some ⟨_,_,.dict es _,_⟩=>match getQ x es.toList with
  |some v=>some v
  |none=>globalIn K x
 |_=>none
set_option tactic.hygienic true in
theorem t0w{K:Frag}{x:Str}{v:Value}(h:globQ K x=some v):globalIn K x=some v:=by
 unfold globQ at h
 split at h
 ·rename_i c d es n sl ho
  split at h
  ·rename_i w hw
   cases h
   obtain⟨e,he,rfl⟩:=q0o hw
   unfold globalIn nsIn
   rw[ho]
   dsimp only
   rw[he]
  ·exact h
 ·cases h
noncomputable def gP(K:Frag)(p:Str × V):Ok (GOK K p):=onS (globQ K p.1) λv hv=>onP (vP K 5 v p.2) λx0 h=>okY ⟨v,t0w hv,h⟩
noncomputable def gChk(K:Frag)(p:Str × V):Bool:=okO (gP K p)
noncomputable abbrev AbsOK(K:Frag)(p:Addr × List Str):Prop:=hasDictIn K p.1=true∧∀x∈p.2,plainGet K p.1 x=true∧findIn K (.ref p.1) x=some none
noncomputable def absP(K:Frag)(p:Addr × List Str):Ok (AbsOK K p):=onT (hasDictIn K p.1) λh=>onP (allK (λx=>onT (plainGet K p.1 x) λh1=>onP (nnK (findIn K (.ref p.1) x)) λx0 h2=>okY (And.intro h1 h2)) p.2) λx0 h'=>okY ⟨h,h'⟩
noncomputable def absChk(K:Frag)(p:Addr × List Str):Bool:=okO (absP K p)
noncomputable abbrev CvOK(K:Frag)(p:Addr × List (Str × V)):Prop:=hasDictIn K p.1=true∧∀q∈p.2,plainGet K p.1 q.1=true∧∃v,findIn K (.ref p.1) q.1=some (some v)∧specialIn K v "__get__"=some none∧handedIn v=true∧copiedNames.contains q.1=false∧RdOK K v q.2
noncomputable def cvP(K:Frag)(p:Addr × List (Str × V)):Ok (CvOK K p):=onT (hasDictIn K p.1) λh=>onP (allK (λq:Str × V=>onT (plainGet K p.1 q.1) λh1=>match h2:findIn K (.ref p.1) q.1 with
 |some (some v)=>onP (nnK (specialIn K v "__get__")) λx0 h3=>onT (handedIn v) λh4=>onF (copiedNames.contains q.1) (λx0=>none) λh5=>onP (vP K 5 v q.2) λx0 h6=>okY (And.intro h1 ⟨v,h2,h3,h4,h5,h6⟩)
 |_=>none) p.2) λx0 h'=>okY ⟨h,h'⟩
noncomputable def cvChk(K:Frag)(p:Addr × List (Str × V)):Bool:=okO (cvP K p)
noncomputable abbrev MeOK(K:Frag)(p:Addr × List (Str × Addr)):Prop:=∀q∈p.2,plainGet K p.1 q.1=true∧findIn K (.ref p.1) q.1=some (some (.ref q.2))∧isFn K (.ref q.2)=true
noncomputable def meP(K:Frag)(p:Addr × List (Str × Addr)):Ok (MeOK K p):=allK (λq:Str × Addr=>onT (plainGet K p.1 q.1) λh1=>match h2:findIn K (.ref p.1) q.1 with
 |some (some (.ref a))=>onT (Nat.beq a q.2) λe=>onT (isFn K (.ref q.2)) λh3=>okY (And.intro h1 ⟨by rw[h2,Nat.eq_of_beq_eq_true e],h3⟩)
 |_=>none) p.2
noncomputable def meChk(K:Frag)(p:Addr × List (Str × Addr)):Bool:=okO (meP K p)
noncomputable abbrev SetOK(K:Frag)(p:Addr × List Str):Prop:=findIn K (.ref p.1) "__setattr__"=some (some (.builtin "object.__setattr__"))∧plainOver K p.1=true∧hasDictIn K p.1=true∧∀x∈p.2,takerIn K p.1 x=some none
noncomputable def setsP(K:Frag)(p:Addr × List Str):Ok (SetOK K p):=match h1:findIn K (.ref p.1) "__setattr__" with
 |some (some (.builtin "object.__setattr__"))=>onT (plainOver K p.1) λh2=>onT (hasDictIn K p.1) λh3=>onP (allK (λx=>nnK (takerIn K p.1 x)) p.2) λx0 h4=>okY ⟨h1,h2,h3,h4⟩
 |_=>none
noncomputable def setChk(K:Frag)(p:Addr × List Str):Bool:=okO (setsP K p)
structure EcChk(K:Frag)(T:Ec):Prop where
 g:allB (gChk K) T.GT=true
 a:allB (absChk K) T.absent=true
 c:allB (cvChk K) T.cval=true
 m:allB (meChk K) T.meth=true
 s:allB (setChk K) T.sets=true
theorem h0q{X:Cx}{T:Ec}(hl:T.lp=true->X.lp=true)(h:EcChk X.K T):EcOK X T:=by
 refine⟨λp hp=> ?_,λp hp=>c0c (a0o h.a p hp),λp hp=> ?_,λp hp=>c0c (a0o h.m p hp),λp hp=>c0c (a0o h.s p hp),hl⟩
 ·obtain⟨v,h1,h2⟩:=c0c (a0o h.g p hp)
  exact⟨v,h1,λf hb=>h2 X f rfl hb⟩
 ·have z:=c0c (a0o h.c p hp)
  refine⟨z.1,λq hq=>⟨(z.2 q hq).1,?_⟩⟩
  obtain⟨v,h2,h3,h4,h5,h6⟩:=(z.2 q hq).2
  exact⟨v,h2,h3,h4,h5,λf hb=>h6 X f rfl hb⟩
theorem c0x{α β:Type}{f g:α->β}{l:List α}(h:l.map f=l.map g):∀x∈l,f x=g x:=List.map_inj_left.mp h
theorem t_fn(P:Params):fns.map (λe=>fnOf (frag P) e.a)=fns.map (λe=>some (e.D.sc,e.D.body)):=by kernel_rfl
theorem t_all(P:Params):(allB (λe=>scOk e.D) fns,allB (λe:FnE=>vOks (frag P) 5 e.D.dv e.dxs) fns,allB (mkChk (frag P)) mks,allB (gChk (frag P)) ecT.GT,allB (absChk (frag P)) ecT.absent,allB (cvChk (frag P)) ecT.cval,allB (meChk (frag P)) ecT.meth,allB (setChk (frag P)) ecT.sets)=(true,true,true,true,true,true,true,true):=by kernel_rfl
theorem e1d(P:Params)(S:Setting)(g:Nat->Value):fns.map (λe=>(ars e.D).map λn=>bindF (frag P) S e.a ((List.range n).map g))=mapR (λe=>mapR (λn=>some (e.D.names.zip ((List.range n).map g++dvFrom e.D n))) (ars e.D)) fns:=by kernel_rfl
theorem a1k{P:Params}{e:FnE}(he:e∈fns)(S:Setting)(vs:List Value)(h1:vs.length≤e.D.names.length)(h2:e.D.names.length≤vs.length+e.D.dv.length):bindF (frag P) S e.a vs=some (e.D.names.zip (vs++dvFrom e.D vs.length)):=by
 have q:=a0a (a0a (e1d P S λi=>vs.getD i .none) e he) _ (y0i h1 h2)
 rw[j0h] at q
 exact q
theorem v0z{X:Cx}(hK:X.K=frag X.w.params){T:Ec}(e:T.GT=ecT.GT∧T.absent=ecT.absent∧T.cval=ecT.cval∧T.meth=ecT.meth∧T.sets=ecT.sets)(hl:T.lp=true->X.lp=true):TabOK X T fns mks:=by
 obtain⟨e1,e2,e3,e4,e5⟩:=e
 obtain⟨t_sc,q⟩:=Prod.mk.inj (t_all X.w.params)
 obtain⟨t_dv,q⟩:=Prod.mk.inj q
 obtain⟨t_mk,q⟩:=Prod.mk.inj q
 obtain⟨t_g,q⟩:=Prod.mk.inj q
 obtain⟨t_a,q⟩:=Prod.mk.inj q
 obtain⟨t_c,q⟩:=Prod.mk.inj q
 obtain⟨t_m,t_s⟩:=Prod.mk.inj q
 refine⟨h0q hl ⟨?_,?_,?_,?_,?_⟩,λe he=>⟨⟨x0x (D:=(e.D.sc,e.D.body)) ?_,hK▸a1k he⟩,x0k (a0o t_sc e he),λf hb=>y0f hb 5 _ _ ?_⟩,λp hp=>u0a ?_⟩
 ·rw[hK,e1];exact t_g
 ·rw[hK,e2];exact t_a
 ·rw[hK,e3];exact t_c
 ·rw[hK,e4];exact t_m
 ·rw[hK,e5];exact t_s
 ·rw[hK];exact c0x (t_fn _) e he
 ·rw[hK];exact a0o t_dv e he
 ·rw[hK];exact a0o t_mk p hp
theorem a0y{X:Cx}(hK:IsX X):TabOK X ecT fns mks:=v0z hK.k ⟨rfl,rfl,rfl,rfl,rfl⟩ λ_=>hK.lp
theorem p0r{X:Cx}(hK:X.K=frag X.w.params):TabOK X ecF fns mks:=v0z hK ⟨rfl,rfl,rfl,rfl,rfl⟩ λh=>by cases h
theorem Fo.le{ds:List Dr}{p e:P2}(h:Fo ds p e):p.2≤e.2:=by
 induction h with
 |nil p=>exact Nat.le_refl _
 |v _ ih=>exact Nat.le_trans (Nat.le_succ _) ih
 |n _ ih=>exact Nat.le_trans (Nat.le_succ _) ih
 |exp _ _ _ i1 i2=>exact Nat.le_trans i1 i2
section
variable {X:Cx} {A:Around} {n:Nat} {env:Env} {B:Bs} {vars:Vars} {ow:Option (Str × Ow)} {m cm:Str->Option Value} {f:FH} {σ σ':Gs} {s:Shared} {h h':Heap} {a:Addr}
theorem ld(C:Cz X env B)(R:Rel X env B f s.heap vars ow m cm){x:Str}{p:Pos}{v:Value}(hx:okName x=true)(e:valOf env m cm x=some v){Q:Value->Shared->Prop}{E:Value->Shared->Prop}(h:Q v s):wpAny X.M A (eval (.Name x p) env) Q E s:=by
 obtain⟨h1,h2⟩:=a0v hx
 exact wpAny_Name (b0o C R.fm e h2 h) h1
theorem rd(C:Cz X env B)(R:Rel X env B f s.heap vars ow m cm){x:Str}{p p2 p3:Pos}{k:Nat}{j:Nat}{its:Array Value}{v:Value}(hx:okName x=true)(e:valOf env m cm x=some (.ref a))(hl:s.heap.IsList a its)(hj:its[j]? =some v)(hsz:j<1000)
  {Q:Value->Shared->Prop}{E:Value->Shared->Prop}(h:Q v {s with toks:=s.toks+1}):wpAny X.M A (eval (.Subscript (.Name x p) (.Constant (.int (Int.ofNat j)) k p2) p3) env) Q E s:=by
 refine Subscript_ (ld C R hx e (wpAny_Constant_int ?_))
 exact PyProof.Rows.tail_any hl.typeIs slot_list_getitem.lookup (wpAny_getItem_list (s:={s with toks:=s.toks+1}) hl (by show(0:Int)≤(j:Int);lia) (by show(j:Int)<2 ^ 63;lia) (by simpa using hj) h) (ops:=_) rfl
theorem Inv.nilOf(I:Inv X σ h){p:P2}{t u:Tok}(hl:h'.IsList (X.g 0) #[.int (Int.ofNat p.1) t,.int (Int.ofNat p.2) u])(hs:Heap.SameBut (X.g 0) h h')(hb:p.2<1048576){ds:List Dr}{e:P2}(hf:Fo ds p e)(he:e.2<1048576):Inv X ⟨ds,e,σ.nb,σ.md⟩ h':=by
 refine⟨⟨p,t,u,λx0=>hl,hf⟩,λj hj=> ?_,I.gs,he,λD T hm=> ?_⟩
 ·by_cases q:X.g j=X.g 0
  ·obtain⟨o,e,_⟩:=hl
   exact⟨o,by rw[q];exact e⟩
  ·obtain⟨o,e⟩:=I.live j hj
   exact⟨o,(hs.2 _ q).trans e⟩
 ·obtain⟨⟨a1,a2,a3⟩,⟨kvs,d1,d2⟩,vs,m,t1,t2⟩:=I.names D T hm
  exact⟨⟨a1,a2,a3⟩,⟨kvs,d0m d1 λo e=>(hs.2 _ (Ne.symm a1)).trans e,d2⟩,vs,m,(hs.2 _ (Ne.symm a2)).trans t1,t2⟩
end
theorem b1251:d1251.body=[Stmt.Assign
  [(Expr.Name ("heap") ⟨740,4,740,8⟩).Subscript
    (Expr.Constant (Const.int 1) 0 ⟨740,9,740,10⟩)
    ⟨740,4,740,11⟩]
  (((Expr.Name ("heap") ⟨740,14,740,18⟩).Subscript
     (Expr.Constant (Const.int 1) 0 ⟨740,19,740,20⟩)
     ⟨740,14,740,21⟩).BinOp
   Operator.Add (Expr.Constant (Const.int 1) 0 ⟨740,24,740,25⟩)
   ⟨740,14,740,25⟩)
  ⟨740,4,740,25⟩,
 Stmt.If
  (((Expr.Name ("heap") ⟨741,7,741,11⟩).Subscript
     (Expr.Constant (Const.int 0) 0 ⟨741,12,741,13⟩)
     ⟨741,7,741,14⟩).Compare
   [CmpOp.Eq] [Expr.Constant (Const.int 0) 0 ⟨741,18,741,19⟩]
   ⟨741,7,741,19⟩)
  [Stmt.Return
    (some
     (((((((Expr.Constant (Const.int 7) 0 ⟨742,16,742,17⟩).BinOp
                Operator.Mult
                ((Expr.Name ("heap")
                   ⟨742,20,742,24⟩).Subscript
                 (Expr.Constant (Const.int 1) 0
                  ⟨742,25,742,26⟩)
                 ⟨742,20,742,27⟩)
                ⟨742,16,742,27⟩).BinOp
              Operator.Mult
              ((Expr.Name ("heap")
                 ⟨742,30,742,34⟩).Subscript
               (Expr.Constant (Const.int 1) 0 ⟨742,35,742,36⟩)
               ⟨742,30,742,37⟩)
              ⟨742,16,742,37⟩).BinOp
            Operator.Add
            ((Expr.Constant (Const.int 5) 0 ⟨742,40,742,41⟩).BinOp
             Operator.Mult
             ((Expr.Name ("heap")
                ⟨742,44,742,48⟩).Subscript
              (Expr.Constant (Const.int 1) 0 ⟨742,49,742,50⟩)
              ⟨742,44,742,51⟩)
             ⟨742,40,742,51⟩)
            ⟨742,16,742,51⟩).BinOp
          Operator.Add
          (Expr.Constant (Const.int 3) 0 ⟨742,54,742,55⟩)
          ⟨742,16,742,55⟩).BinOp
        Operator.Mod (Expr.Constant (Const.int 101) 0 ⟨742,59,742,62⟩)
        ⟨742,15,742,62⟩).BinOp
      Operator.Mod (Expr.Name ("many") ⟨742,65,742,69⟩)
      ⟨742,15,742,69⟩))
    ⟨742,8,742,69⟩]
  [] ⟨741,4,742,69⟩,
 Stmt.Assign [Expr.Name ("digit") ⟨743,4,743,9⟩]
  (((Expr.Name ("heap") ⟨743,12,743,16⟩).Subscript
     (Expr.Constant (Const.int 0) 0 ⟨743,17,743,18⟩)
     ⟨743,12,743,19⟩).BinOp
   Operator.Mod (Expr.Name ("many") ⟨743,22,743,26⟩)
   ⟨743,12,743,26⟩)
  ⟨743,4,743,26⟩,
 Stmt.Assign
  [(Expr.Name ("heap") ⟨744,4,744,8⟩).Subscript
    (Expr.Constant (Const.int 0) 0 ⟨744,9,744,10⟩)
    ⟨744,4,744,11⟩]
  (((Expr.Name ("heap") ⟨744,14,744,18⟩).Subscript
     (Expr.Constant (Const.int 0) 0 ⟨744,19,744,20⟩)
     ⟨744,14,744,21⟩).BinOp
   Operator.FloorDiv (Expr.Name ("many") ⟨744,25,744,29⟩)
   ⟨744,14,744,29⟩)
  ⟨744,4,744,29⟩,
 Stmt.Return (some (Expr.Name ("digit") ⟨745,11,745,16⟩))
  ⟨745,4,745,16⟩]:=by kernel_rfl
theorem f1251:findE 1251 fns=some e1251:=by kernel_rfl
theorem draw0{p:P2}{k:Nat}(h0:p.1=0)(hk:0<k):Int.fmod (Int.fmod (7 * Int.ofNat (p.2+1) * Int.ofNat (p.2+1)+5 * Int.ofNat (p.2+1)+3) 101) (Int.ofNat k)=Int.ofNat (draw p k):=by
 unfold draw
 rw[if_pos h0]
 rw[Int.fmod_eq_emod_of_nonneg _ (show(0:Int)≤Int.ofNat k by show(0:Int)≤(k:Int);lia),Int.fmod_eq_emod_of_nonneg _ (show(0:Int)≤101 by decide)]
 show _=(((7 * (p.2+1) * (p.2+1)+5 * (p.2+1)+3) % 101 % k:Nat):Int)
 push_cast
 rfl
theorem draw1{p:P2}{k:Nat}(h0:¬p.1=0):Int.fmod (Int.ofNat p.1) (Int.ofNat k)=Int.ofNat (draw p k)∧Int.fdiv (Int.ofNat p.1) (Int.ofNat k)=Int.ofNat (next p k).1:=by
 unfold draw next
 rw[if_neg h0]
 refine⟨?_,?_⟩
 ·rw[Int.fmod_eq_emod_of_nonneg _ (by show(0:Int)≤(k:Int);lia)]
  show _=((p.1 % k:Nat):Int)
  push_cast;rfl
 ·dsimp only
  rw[if_neg h0,Int.fdiv_eq_ediv_of_nonneg _ (by show(0:Int)≤(k:Int);lia)]
  show _=((p.1 / k:Nat):Int)
  push_cast;rfl
section
variable {X:Cx} {A:Around} {n:Nat} {env:Env} {B:Bs} {vars:Vars} {ow:Option (Str × Ow)} {m cm:Str->Option Value} {f:FH} {σ σ':Gs} {s:Shared} {h h':Heap} {a:Addr}
theorem glOf{x:Str}{k:Nat}(R:Rel X env B f h vars ow m cm)(e:look x vars=some (.gl k)):valOf env m cm x=some (.ref (X.g k)):=by
 obtain⟨v,a,b⟩:=R.vars _ _ e
 cases b using VR.eGl;exact a
theorem glLt{x:Str}{k:Nat}(R:Rel X env B f h vars ow m cm)(e:look x vars=some (.gl k)):k<X.n:=by
 obtain⟨v,a,b⟩:=R.vars _ _ e
 cases b using VR.eGl;assumption
theorem intOf{x:Str}{i:Int}(R:Rel X env B f h vars ow m cm)(e:look x vars=some (.int i)):∃t,valOf env m cm x=some (.int i t):=by
 obtain⟨v,a,b⟩:=R.vars _ _ e
 cases b using VR.eInt;exact⟨_,a⟩
theorem c0n{l r:Expr}{op:Operator}{pos:Pos}{i j k:Int}(HL:Tr X A (eval l env) f σ s (.int i) σ)(HR:∀f' h' t',Kp X f s.heap f' h'->St X f' σ h'->Tr X A (eval r env) f' σ {s with heap:=h',toks:=t'} (.int j) σ)
  (HO:∀(t u:Tok)(f':FH)(s':Shared),St X f' σ s'.heap->Tr X A (binaryOp op (.int i t) (.int j u)) f' σ s' (.int k) σ):Tr X A (eval (.BinOp l op r pos) env) f σ s (.int k) σ:=by
 intro Q E hQ
 refine wpAny_BinOp (HL _ _ λva f1 h1 t1 K1 S1 r1=> ?_)
 refine HR f1 h1 t1 K1 S1 _ _ λvb f2 h2 t2 K2 S2 r2=> ?_
 cases r1
 cases r2
 exact @HO _ _ f2 {s with heap:=h2,toks:=t2} S2 _ _ λvc f3 h3 t3 K3 S3 r3=>hQ vc f3 h3 t3 ((K1.trans K2).trans K3) S3 r3
theorem g0j{i:Int}{k:Nat}{p:Pos}(S:St X f σ s.heap):Tr X A (eval (.Constant (.int i) k p) env) f σ s (.int i) σ:=λQ E hQ=>wpAny_Constant_int (here S hQ (.int _ _))
theorem t0k(C:Cz X env B)(R:Rel X env B f s.heap vars ow m cm)(S:St X f σ s.heap){x:Str}{p:Pos}{i:Int}(hx:okName x=true)(e:look x vars=some (.int i)):Tr X A (eval (.Name x p) env) f σ s (.int i) σ:=by
 intro Q E hQ
 obtain⟨t,ht⟩:=intOf R e
 exact ld C R hx ht (here' S hQ (.int _ _))
theorem j0v(C:Cz X env B){q:P2}{nb:Bool}{md:Nat}(R:Rel X env B f s.heap vars ow m cm)(S:St X f ⟨[],q,nb,md⟩ s.heap){x:Str}{p p2 p3:Pos}{k:Nat}(j:Nat){i:Int}(hx:okName x=true)(e:look x vars=some (.gl 0))(hj:(j=0∧i=Int.ofNat q.1)∨(j=1∧i=Int.ofNat q.2)):
  Tr X A (eval (.Subscript (.Name x p) (.Constant (.int (Int.ofNat j)) k p2) p3) env) f ⟨[],q,nb,md⟩ s (.int i) ⟨[],q,nb,md⟩:=by
 intro Q E hQ
 obtain⟨p',t,u,hl,hf⟩:=S.inv.heap
 replace hl:=hl (glLt R e)
 cases hf with
 |nil=>
 rcases hj with⟨rfl,rfl⟩|⟨rfl,rfl⟩
 ·exact rd C R hx (glOf R e) hl rfl (by decide) (here S hQ (.int _ _))
 ·exact rd C R hx (glOf R e) hl rfl (by decide) (here S hQ (.int _ _))
theorem h0b{i j:Int}(h:i.natAbs<2 ^ 31):IntMulOk i j:=IntMulOk.of_left (d0g h)
theorem take0{p1 p2 p3 p4 p5 p6 p7 p8 p9 p10 p11 p12 p13 p14 p15 p16 p17 p18 p19 p20 p21:Pos}{k1 k2 k3 k4 k5 k6 k7:Nat}(C:Cz X env B){q:P2}{c k:Nat}{nb:Bool}{md:Nat}(R:Rel X env B f s.heap vars ow m cm)(S:St X f ⟨[],q,nb,md⟩ s.heap)
  (e:look "heap" vars=some (.gl 0))(e2:look "many" vars=some (.int (Int.ofNat k)))(hc:q.2=c+1)(hk:0<k)(hb:c<1048576):
  Tr X A (eval (.BinOp (.BinOp (.BinOp (.BinOp (.BinOp (.BinOp (.Constant (.int 7) k1 p1) .Mult (.Subscript (.Name "heap" p2) (.Constant (.int 1) k2 p3) p4) p5) .Mult (.Subscript (.Name "heap" p6) (.Constant (.int 1) k3 p7) p8) p9) .Add
   (.BinOp (.Constant (.int 5) k4 p10) .Mult (.Subscript (.Name "heap" p11) (.Constant (.int 1) k5 p12) p13) p14) p15) .Add (.Constant (.int 3) k6 p16) p17) .Mod (.Constant (.int 101) k7 p18) p19) .Mod (.Name "many" p20) p21) env) f ⟨[],q,nb,md⟩ s
   (.int (Int.fmod (Int.fmod (7 * Int.ofNat (c+1) * Int.ofNat (c+1)+5 * Int.ofNat (c+1)+3) 101) (Int.ofNat k))) ⟨[],q,nb,md⟩:=by
 have rd1:∀(f':FH)(s':Shared)(p2 p3 p4:Pos)(k2:Nat),Rel X env B f' s'.heap vars ow m cm->St X f' ⟨[],q,nb,md⟩ s'.heap->Tr X A (eval (.Subscript (.Name "heap" p2) (.Constant (.int 1) k2 p3) p4) env) f' ⟨[],q,nb,md⟩ s' (.int (Int.ofNat (c+1))) ⟨[],q,nb,md⟩:=
  λf' s' p2 p3 p4 k2 R S=>j0v C R S 1 rfl e (.inr ⟨rfl,by rw[hc]⟩)
 refine c0n (i:=Int.fmod (7 * Int.ofNat (c+1) * Int.ofNat (c+1)+5 * Int.ofNat (c+1)+3) 101) (j:=Int.ofNat k) ?_ (λf' h' t' K' S'=>t0k C (R.kp' K') S' rfl e2) λt u f' s' S' Q E hQ=>mod_int' (by show ¬((k:Int)=0);lia) (here S' hQ (.int _ _))
 refine c0n (i:=7 * Int.ofNat (c+1) * Int.ofNat (c+1)+5 * Int.ofNat (c+1)+3) (j:=101) ?_ (λf' h' t' K' S'=>g0j S') λt u f' s' S' Q E hQ=>mod_int' (by decide) (here S' hQ (.int _ _))
 refine c0n (i:=7 * Int.ofNat (c+1) * Int.ofNat (c+1)+5 * Int.ofNat (c+1)) (j:=3) ?_ (λf' h' t' K' S'=>g0j S') λt u f' s' S' Q E hQ=>add_int (here S' hQ (.int _ _))
 refine c0n (i:=7 * Int.ofNat (c+1) * Int.ofNat (c+1)) (j:=5 * Int.ofNat (c+1)) ?_ (λf' h' t' K' S'=> ?_) λt u f' s' S' Q E hQ=>add_int (here S' hQ (.int _ _))
 ·refine c0n (i:=7 * Int.ofNat (c+1)) (j:=Int.ofNat (c+1)) ?_ (λf' h' t' K' S'=>rd1 f' _ _ _ _ _ (R.kp' K') S') λt u f' s' S' Q E hQ=>mul_int (here S' hQ (.int _ _)) (h0b (by show(7 * ((c+1:Nat):Int)).natAbs<2 ^ 31;lia))
  exact c0n (i:=7) (j:=Int.ofNat (c+1)) (g0j S) (λf' h' t' K' S'=>rd1 f' _ _ _ _ _ (R.kp' K') S') λt u f' s' S' Q E hQ=>mul_int (here S' hQ (.int _ _)) (h0b (by decide))
 ·exact c0n (i:=5) (j:=Int.ofNat (c+1)) (g0j S') (λf'' h'' t'' K'' S''=>rd1 f'' _ _ _ _ _ ((R.kp' K').kp' K'') S'') λt u f' s' S' Q E hQ=>mul_int (here S' hQ (.int _ _)) (h0b (by decide))
end
section
variable {X:Cx} {A:Around} {n:Nat} {env:Env} {B:Bs} {vars:Vars} {ow:Option (Str × Ow)} {m cm:Str->Option Value} {f:FH} {σ σ':Gs} {s:Shared} {h h':Heap} {a:Addr} {st st₁ st₂:Sx} {fl:Fl}
theorem TrS.cons{e:Stmt}{es:List Stmt}(H:TrS X A env B (exec e env) f st s .next st₁)(G:∀f1 s1 m cm,f.le f1->Rel X env B f1 s1.heap st₁.vars st₁.ow m cm->St X f1 st₁.σ s1.heap->TrS X A env B (execs es env) f1 st₁ s1 fl st₂):
  TrS X A env B (execs (e::es) env) f st s fl st₂:=by
 intro Q E hQ
 refine wpAny_execs_cons (H _ _ λfl' f1 h1 t1 m1 cm1 r1 le S1 R1=> ?_)
 cases r1
 exact G f1 {s with heap:=h1,toks:=t1} m1 cm1 le R1 S1 _ _ λfl' f2 h2 t2 m2 cm2 r2 le2 S2 R2=>hQ fl' f2 h2 t2 m2 cm2 r2 (le.trans le2) S2 R2
theorem TrS.one{e:Stmt}{y:V}(H:TrS X A env B (exec e env) f st s (.ret y) st₁){es:List Stmt}:TrS X A env B (execs (e::es) env) f st s (.ret y) st₁:=by
 intro Q E hQ
 refine wpAny_execs_cons (H _ _ λfl' f1 h1 t1 m1 cm1 r1 le S1 R1=> ?_)
 cases r1 with
 |ret r1=>exact hQ _ f1 h1 t1 m1 cm1 (.ret r1) le S1 R1
theorem j0y(C:Cz X env B){q q':P2}{nb:Bool}{md:Nat}(R:Rel X env B f s.heap vars ow m cm){x:Str}{p p2 p3 pos:Pos}{k:Nat}{e:Expr}{v:Nat}(j:Nat)(hx:okName x=true)(el:look x vars=some (.gl 0))(hc:notComp e=true)
  (HE:Tr X A (eval e env) f ⟨[],q,nb,md⟩ s (.int (Int.ofNat v)) ⟨[],q,nb,md⟩)(hj:(j=0∧q'=(v,q.2))∨(j=1∧q'=(q.1,v)))(hb:q'.2<1048576):
  TrS X A env B (exec (.Assign [.Subscript (.Name x p) (.Constant (.int (Int.ofNat j)) k p2) p3] e pos) env) f ⟨vars,ow,⟨[],q,nb,md⟩⟩ s .next ⟨vars,ow,⟨[],q',nb,md⟩⟩:=by
 intro Q E hQ
 refine wpAny_Assign_Subscript (HE _ _ λva f1 h1 t1 K1 S1 r1=> ?_) (a0r hc)
 have R1:=R.kp' K1
 cases r1 with
 |int _ t2=>
 refine ld (s:={s with heap:=h1,toks:=t1}) C R1 hx (glOf R1 el) (wpAny_Constant_int ?_)
 obtain⟨p',t,u,hl,hf⟩:=S1.inv.heap
 replace hl:=hl (glLt R1 el)
 cases hf with
 |nil=>
 have hG:X.G (X.g 0):=⟨0,glLt R1 el,rfl⟩
 rcases hj with⟨rfl,rfl⟩|⟨rfl,rfl⟩
 ·refine wpAny_setItem_list hl (by decide) (by decide) (by show(0:Int)<((2:Nat):Int);decide) λh2 hl2 hs2=> ?_
  obtain⟨R2,S2⟩:=R1.g (σ':=⟨[],(v,q.2),nb,md⟩) S1 hG hs2 (S1.inv.nilOf (p:=(v,q.2)) hl2 hs2 hb (.nil _) hb)
  exact hQ _ f1 h2 _ m cm .next K1.le S2 R2
 ·refine wpAny_setItem_list hl (by decide) (by decide) (by show(1:Int)<((2:Nat):Int);decide) λh2 hl2 hs2=> ?_
  obtain⟨R2,S2⟩:=R1.g (σ':=⟨[],(q.1,v),nb,md⟩) S1 hG hs2 (S1.inv.nilOf (p:=(q.1,v)) hl2 hs2 hb (.nil _) hb)
  exact hQ _ f1 h2 _ m cm .next K1.le S2 R2
theorem n0l{l:Expr}{p pos:Pos}{k:Nat}{i:Int}(HL:Tr X A (eval l env) f σ s (.int i) σ):TrG X A (isTrue (.Compare l [.Eq] [.Constant (.int 0) k p] pos) env (eval (.Compare l [.Eq] [.Constant (.int 0) k p] pos) env)) f σ s (λx0 c=>V.bool (i==0)= .bool c) σ:=by
 intro Q E hQ
 refine wpAny_isTrue_Compare1 (HL _ _ λva f1 h1 t1 K1 S1 r1=> ?_) (by kernel_rfl)
 cases r1
 exact wpAny_Constant_int (eq_int (wpAny_truthy_bool (hQ _ f1 h1 _ K1 S1 rfl)))
theorem p0q(C:Cz X env B)(hsc:env.scope=d1251.sc){p:P2}{k:Nat}{nb:Bool}{md:Nat}(hk:0<k)(hk2:k<1000)(hb:p.2+1<1048576)
  (R:Rel X env B f s.heap (varsOf d1251 [.gl 0,.int (Int.ofNat k)] []) none m cm)(S:St X f ⟨[],p,nb,md⟩ s.heap):
  ∃vs,TrS X A env B (execs d1251.body env) f ⟨varsOf d1251 [.gl 0,.int (Int.ofNat k)] [],none,⟨[],p,nb,md⟩⟩ s (.ret (.int (Int.ofNat (draw p k)))) ⟨vs,none,⟨[],next p k,nb,md⟩⟩:=by
 rw[b1251]
 have vH:look "heap" (varsOf d1251 [.gl 0,.int (Int.ofNat k)] [])=some (.gl 0):=by kernel_rfl
 have vM:look "many" (varsOf d1251 [.gl 0,.int (Int.ofNat k)] [])=some (.int (Int.ofNat k)):=by kernel_rfl
 have s1:∀{f1:FH}{s1:Shared}{m1 cm1:Str->Option Value},True:=trivial
 by_cases h0:p.1=0
 ·refine⟨varsOf d1251 [.gl 0,.int (Int.ofNat k)] [],TrS.cons (j0y (q':=(p.1,p.2+1)) (v:=p.2+1) C R 1 rfl vH rfl ?_ (.inr ⟨rfl,rfl⟩) hb) λf1 s1 m1 cm1 le1 R1 S1=> ?_⟩
  ·exact c0n (i:=Int.ofNat p.2) (j:=1) (j0v C R S 1 rfl vH (.inr ⟨rfl,rfl⟩)) (λf' h' t' K' S'=>g0j S') λt u f' s' S' Q E hQ=>add_int (here S' hQ (.int _ _))
  ·refine TrS.one (f0e (b:=true) (σ':=⟨[],(p.1,p.2+1),nb,md⟩) C R1 ?_ λf2 s2 R2 S2=> ?_)
   ·have:=n0l (A:=A) (env:=env) (k:=0) (p:=⟨741,18,741,19⟩) (pos:=⟨741,7,741,19⟩) (j0v (A:=A) (x:="heap") (p:=⟨741,7,741,11⟩) (p2:=⟨741,12,741,13⟩) (p3:=⟨741,7,741,14⟩) (k:=0) C R1 S1 0 (i:=Int.ofNat p.1) rfl vH (.inl ⟨rfl,rfl⟩))
    rw[h0] at this ⊢
    exact this
   ·have t0:=take0 (A:=A) (vars:=varsOf d1251 [.gl 0,.int (Int.ofNat k)] []) (ow:=none) (m:=m1) (q:=(p.1,p.2+1)) (c:=p.2) (k:=k) (nb:=nb) (md:=md) (p1:=⟨742,16,742,17⟩) (p2:=⟨742,20,742,24⟩) (p3:=⟨742,25,742,26⟩) (p4:=⟨742,20,742,27⟩) (p5:=⟨742,16,742,27⟩) (p6:=⟨742,30,742,34⟩) (p7:=⟨742,35,742,36⟩) (p8:=⟨742,30,742,37⟩) (p9:=⟨742,16,742,37⟩)
     (p10:=⟨742,40,742,41⟩) (p11:=⟨742,44,742,48⟩) (p12:=⟨742,49,742,50⟩) (p13:=⟨742,44,742,51⟩) (p14:=⟨742,40,742,51⟩) (p15:=⟨742,16,742,51⟩) (p16:=⟨742,54,742,55⟩) (p17:=⟨742,16,742,55⟩) (p18:=⟨742,59,742,62⟩) (p19:=⟨742,15,742,62⟩) (p20:=⟨742,65,742,69⟩) (p21:=⟨742,15,742,69⟩)
     (k1:=0) (k2:=0) (k3:=0) (k4:=0) (k5:=0) (k6:=0) (k7:=0) C R2 S2 vH vM rfl hk (by lia)
    rw[draw0 h0 hk] at t0
    have hn:next p k=(p.1,p.2+1):=by unfold next;rw[if_pos h0,h0]
    rw[hn]
    exact @TrS.one _ _ _ _ _ _ _ _ _ _ (@w0c _ _ _ _ _ _ _ _ _ _ _ _ _ _ _ C R2 t0) _
 ·refine⟨("digit",V.int (Int.ofNat (draw p k)))::varsOf d1251 [.gl 0,.int (Int.ofNat k)] [],TrS.cons (j0y (q':=(p.1,p.2+1)) (v:=p.2+1) C R 1 rfl vH rfl ?_ (.inr ⟨rfl,rfl⟩) hb) λf1 s1 m1 cm1 le1 R1 S1=> ?_⟩
  ·exact c0n (i:=Int.ofNat p.2) (j:=1) (j0v C R S 1 rfl vH (.inr ⟨rfl,rfl⟩)) (λf' h' t' K' S'=>g0j S') λt u f' s' S' Q E hQ=>add_int (here S' hQ (.int _ _))
  ·refine TrS.cons (st₁:=⟨varsOf d1251 [.gl 0,.int (Int.ofNat k)] [],none,⟨[],(p.1,p.2+1),nb,md⟩⟩) (f0e (b:=false) (σ':=⟨[],(p.1,p.2+1),nb,md⟩) C R1 ?_ λf2 s2 R2 S2 Q E hQ=>wpAny_execs_nil (hQ _ f2 s2.heap s2.toks m1 cm1 .next (FH.le.refl _) S2 R2)) λf2 s2 m2 cm2 le2 R2 S2=> ?_
   ·have:=n0l (A:=A) (env:=env) (k:=0) (p:=⟨741,18,741,19⟩) (pos:=⟨741,7,741,19⟩) (j0v (A:=A) (x:="heap") (p:=⟨741,7,741,11⟩) (p2:=⟨741,12,741,13⟩) (p3:=⟨741,7,741,14⟩) (k:=0) C R1 S1 0 (i:=Int.ofNat p.1) rfl vH (.inl ⟨rfl,rfl⟩))
    rw[show(Int.ofNat p.1==0)=false from beq_eq_false_iff_ne.mpr λq=>h0 (Int.ofNat.inj q)] at this
    exact this
   ·refine TrS.cons (b0l C R2 S2 (a0r rfl) (by rw[hsc];kernel_rfl) rfl (y:=.int (Int.ofNat (draw p k))) (σ':=⟨[],(p.1,p.2+1),nb,md⟩) ?_) λf3 s3 m3 cm3 le3 R3 S3=> ?_
    ·refine c0n (i:=Int.ofNat p.1) (j:=Int.ofNat k) (j0v C R2 S2 0 rfl vH (.inl ⟨rfl,rfl⟩)) (λf' h' t' K' S'=>t0k C (R2.kp' K') S' rfl vM) λt u f' s' S' Q E hQ=> ?_
     refine mod_int' (by show ¬((k:Int)=0);lia) ?_
     rw[(draw1 h0).1]
     exact here S' hQ (.int _ _)
    ·have vH3:look "heap" ((("digit":Str),V.int (Int.ofNat (draw p k)))::varsOf d1251 [.gl 0,.int (Int.ofNat k)] [])=some (.gl 0):=by kernel_rfl
     have vM3:look "many" ((("digit":Str),V.int (Int.ofNat (draw p k)))::varsOf d1251 [.gl 0,.int (Int.ofNat k)] [])=some (.int (Int.ofNat k)):=by kernel_rfl
     have vD3:look "digit" ((("digit":Str),V.int (Int.ofNat (draw p k)))::varsOf d1251 [.gl 0,.int (Int.ofNat k)] [])=some (.int (Int.ofNat (draw p k))):=by kernel_rfl
     refine TrS.cons (j0y (q':=((next p k).1,p.2+1)) (v:=(next p k).1) C R3 0 rfl vH3 rfl ?_ (.inl ⟨rfl,rfl⟩) hb) λf4 s4 m4 cm4 le4 R4 S4=> ?_
     ·refine c0n (i:=Int.ofNat p.1) (j:=Int.ofNat k) (j0v C R3 S3 0 rfl vH3 (.inl ⟨rfl,rfl⟩)) (λf' h' t' K' S'=>t0k C (R3.kp' K') S' rfl vM3) λt u f' s' S' Q E hQ=> ?_
      refine floordiv_int (by show ¬((k:Int)=0);lia) ?_ (.inl (PyProof.noPylong_small (by show(k:Int).natAbs<_;lia)))
      rw[(draw1 h0).2]
      exact here S' hQ (.int _ _)
     ·exact @TrS.one _ _ _ _ _ _ _ _ _ _ (w0c C R4 (t0k C R4 S4 rfl vD3)) _
theorem n0y(hK:IsX X){k d:Nat}{r:List Dr}{e:P2}{nb:Bool}{md:Nat}(hk:0<k)(hk2:k<1000):FnV X (n+1) (.ref 1251) [.gl 0,.int (Int.ofNat k)] ⟨.v k d::r,e,nb,md⟩ (.int (Int.ofNat d)) ⟨r,e,nb,md⟩:=by
 obtain⟨hF,hs,hd⟩:=(a0y hK).fn e1251 (a0q f1251).1
 refine⟨e0u hF.keep,λA f s vs hA S hv Q E hQ=>wpAny_call ?_⟩
 refine c0d (D:=d1251) (a:=1251) (B:=⟨f,s.heap,[],none⟩) (dxs:=[]) hF hs S Kp.refl rfl (statics S) hv .nil (by rw[hv.length];exact Nat.le_of_ble_eq_true (by kernel_rfl)) (Nat.zero_le _) (by rw[hv.length];exact Nat.le_of_ble_eq_true (by kernel_rfl)) hA.rec (ow:=none)
  (λenv h m cm x0 x0 x0 x o e=>by cases e) (λv e=>by cases e) λenv h t m cm hsc C R S0=> ?_
 obtain⟨p,t0,u0,hl,hf⟩:=S0.inv.heap
 have hgn:0<X.n:=by
  cases hv with|cons g1 _=>cases g1 using VR.eGl;assumption
 replace hl:=hl hgn
 have hb:p.2+1≤e.2∧Fo r (next p k) e∧d=draw p k:=by
  cases hf with
  |v hf=>exact⟨hf.le,hf,rfl⟩
  |exp hx _ _=>cases hx
 obtain⟨hb,hfo,rfl⟩:=hb
 have he:e.2<1048576:=S0.inv.bnd
 have hpb:p.2<1048576:=by lia
 have S1:=S0.re (S0.inv.nilOf (h':=h) (p:=p) (e:=p) (ds:=[]) hl (Heap.SameBut.refl ..) hpb (.nil _) hpb)
 obtain⟨vs',T⟩:=p0q (A:=A.deeper env) (s:={s with heap:=h,toks:=t}) C hsc hk hk2 (by lia) R S1
 refine T _ _ λfl' f' h' t' m' cm' r' le S'' R'=> ?_
 cases r' with
 |ret r'=>
 obtain⟨p',t1,u1,hl',hf'⟩:=S''.inv.heap
 replace hl':=hl' hgn
 cases hf' with
 |nil=>
 exact hQ _ f' h' t' R'.kp (S''.re (S''.inv.nilOf (h':=h') (p:=next p k) (e:=e) (ds:=r) hl' (Heap.SameBut.refl ..) S''.inv.bnd hfo he)) r'
end
noncomputable def OvR(C:Cx->Prop)(n:Nat)(g:Value)(xs:List V)(σ:Gs):Type:=Option {r:V × Gs // ∀X,C X->FnV X n g xs σ r.1 r.2}
section
variable {C:Cx->Prop} {n:Nat} {g:Value} {xs:List V} {σ:Gs} {X:Cx}
noncomputable def OvR.ok(y:V)(σ':Gs)(h:∀X,C X->FnV X n g xs σ y σ'):OvR C n g xs σ:=some ⟨(y,σ'),h⟩
noncomputable def OvR.no:OvR C n g xs σ:=none
noncomputable def OvR.onT(b:Bool)(k:b=true->OvR C n g xs σ):OvR C n g xs σ:=Mine.onT b k
noncomputable def OvR.onF(b:Bool)(k:b=true->OvR C n g xs σ)(k':b=false->OvR C n g xs σ):OvR C n g xs σ:=Mine.onF b k k'
noncomputable def OvR.onS{α:Type}(o:Option α)(k:∀x,o=some x->OvR C n g xs σ):OvR C n g xs σ:=Mine.onS o k
noncomputable def OvR.onP{α:Type}{P:α->Prop}(o:Option {z:α // P z})(k:∀x,P x->OvR C n g xs σ):OvR C n g xs σ:=Mine.onP o k
noncomputable def OvR.at(c:Addr){a:Addr}(k:a=c->OvR C n (.ref a) xs σ):OvR C n (.ref a) xs σ:=Mine.onT (Nat.beq a c) λh=>k (Nat.eq_of_beq_eq_true h)
theorem FnV.re{a c:Addr}{y:V}{σ':Gs}(h:a=c)(F:FnV X n (.ref c) xs σ y σ'):FnV X n (.ref a) xs σ y σ':=h▸F
noncomputable def memA(a:Addr)(l:List Addr):Bool:=@List.rec Addr (λ_=>Bool) false (λb _ ih=>@Bool.rec (λ_=>Bool) ih true (Nat.beq a b)) l
noncomputable def isA(l:List Addr):Value->Bool
 | .ref a=>memA a l
 |_=>false
noncomputable def ovAt(l:List Addr)(ov:Ov):Ov:=λg xs σ=>@Bool.rec (λ_=>Option (V × Gs)) none (ov g xs σ) (isA l g)
theorem OvOK.on{l:List Addr}{ov:Ov}(h:OvOK X n ov):OvOK X n (ovAt l ov):=λg xs σ y σ' e=>by
 unfold ovAt at e
 cases q:isA l g with
 |true=>rw[q] at e;exact h _ _ _ _ _ e
 |false=>rw[q] at e;cases e
noncomputable def ovOf(p:∀g xs σ,OvR C n g xs σ):Ov:=λg xs σ=>valO (p g xs σ)
theorem b0c{p:∀g xs σ,OvR C n g xs σ}(hC:C X):OvOK X n (ovOf p):=λg xs σ y σ' e=>a0t (α:=V × Gs) (P:=λr=>∀X,C X->FnV X n g xs σ r.1 r.2) (o:=p g xs σ) (z:=(y,σ')) e X hC
end
noncomputable def orOv(a b:Ov):Ov:=λg xs σ=>@Option.rec (V × Gs) (λ_=>Option (V × Gs)) (b g xs σ) some (a g xs σ)
noncomputable def RUN(ov:Ov):Ov:=callR (lvl ecT fns mks ov 80 6) fns mks 80
noncomputable def Bnd(l:List Dr):Prop:=∀k d,Dr.v k d∈l->0<k->d<k
section
variable {X:Cx} {A:Around} {n m:Nat} {f:FH} {σ σ':Gs} {s:Shared} {h h':Heap} {a b:Ov} {xs xs':List V} {y y':V} {g:Value}
set_option tactic.hygienic true in
theorem OvOK.or(ha:OvOK X n a)(hb:OvOK X n b):OvOK X n (orOv a b):=λg xs σ y σ' e=>by
 unfold orOv at e
 cases hr:a g xs σ with
 |some r=>rw[hr] at e;cases e;exact ha _ _ _ _ _ hr
 |none=>rw[hr] at e;exact hb _ _ _ _ _ e
theorem OvOK.ups(ha:OvOK X n a):∀k,OvOK X (n+k) a
 |0=>ha
 |k+1=>(ha.ups k).up
theorem FnV.ups(ha:FnV X n g xs σ y σ'):∀k,FnV X (n+k) g xs σ y σ'
 |0=>ha
 |k+1=>(ha.ups k).up
theorem a0g(hK:IsX X)(ho:OvOK X m a):OvOK X (m+7) (RUN a):=l0i (a0y hK) (b0z (a0y hK) 6 ho)
end
noncomputable def ovTP:∀g xs σ,OvR IsX 1 g xs σ:=λg xs σ=>match g,xs with
 | .ref a,[.gl 0,.int (.ofNat k)]=>.at 1251 λha=>match σ with
  |⟨.v k' d::r,e,nb,md⟩=>.onT (Nat.beq k k') λg1=>.onT (Nat.ble 1 k) λg2=>.onT (Nat.ble k 999) λg3=>.ok (.int (Int.ofNat d)) ⟨r,e,nb,md⟩ λX hK=>.re ha (by
   cases Nat.eq_of_beq_eq_true g1
   exact n0y (n:=0) hK (Nat.le_of_ble_eq_true g2) (Nat.lt_succ_of_le (Nat.le_of_ble_eq_true g3)))
  |_=>.no
 |_,_=>.no
noncomputable def ovT:Ov:=ovAt [1251] (ovOf ovTP)
section
variable {X:Cx} {A:Around} {n m:Nat} {f:FH} {σ σ':Gs} {s:Shared} {h h':Heap} {a b:Ov} {xs xs':List V} {y y':V} {g:Value}
theorem b0y(hK:IsX X):OvOK X 1 ovT:=(b0c hK).on
theorem FnV.of1{x:V}(hc:CW X g)(H:∀f v,VR X f v x->∃x',VR X f v x'∧FnV X n g [x'] σ y σ'):FnV X n g [x] σ y σ':=⟨hc,λA f s vs hA S h=>by
 cases h with
 |cons hV r=>
  cases r
  obtain⟨x',h1,F⟩:=H _ _ hV
  exact F.2 A f s _ hA S (.one h1)⟩
theorem FnV.res(hv:FnV X n g xs σ y σ')(c:∀f v,VR X f v y->VR X f v y'):FnV X n g xs σ y' σ':=
 ⟨hv.1,λA f s vs hA S h Q E hQ=>hv.2 A f s vs hA S h Q E λv f' h' t' K' S' r=>hQ v f' h' t' K' S' (c _ _ r)⟩
theorem FnV.arg(hv:FnV X n g xs' σ y σ')(c:∀f vs,VRs X f vs xs->VRs X f vs xs'):FnV X n g xs σ y σ':=
 ⟨hv.1,λA f s vs hA S h=>hv.2 A f s vs hA S (c _ _ h)⟩
theorem Fo.bnd{ds:List Dr}{p e:P2}(h:Fo ds p e):Bnd ds:=by
 induction h with
 |nil p=>intro k d hm;cases hm
 |v hf ih=>
  intro k d hm hk
  rcases List.mem_cons.mp hm with q|hm
  ·cases q;exact c0e _ hk
  ·exact ih k d hm hk
 |n hf ih=>
  intro k d hm hk
  rcases List.mem_cons.mp hm with q|hm
  ·cases q
  ·exact ih k d hm hk
 |exp hx _ _ _ ih=>
  intro k d hm hk
  rcases List.mem_cons.mp hm with q|hm
  ·subst q;cases hx
  ·exact ih k d hm hk
noncomputable def cplx:Dr->Bool
 | .v _ _=>false
 | .n _=>false
 |_=>true
theorem Inv.exp{d:Dr}{r:List Dr}{e:P2}{nb:Bool}{md:Nat}(I:Inv X ⟨d::r,e,nb,md⟩ h)(hd:cplx d=true):∃l,Exp d l∧Bnd l∧Inv X ⟨l++r,e,nb,md⟩ h:=by
 obtain⟨⟨p,t,u,hl,hf⟩,l',gs,bd,nm⟩:=I
 cases hf with
 |v hf=>cases hd
 |n hf=>cases hd
 |exp hx h1 h2=>exact⟨_,hx,h1.bnd,⟨p,t,u,hl,h1.append h2⟩,l',gs,bd,nm⟩
theorem Inv.num{i:Int}{r:List Dr}{e:P2}{nb:Bool}{md:Nat}(I:Inv X ⟨.n i::r,e,nb,md⟩ h):∃d:Nat,d<30∧i=(d:Int) - 9∧Inv X ⟨.v 30 d::r,e,nb,md⟩ h:=by
 obtain⟨⟨p,t,u,hl,hf⟩,l',gs,bd,nm⟩:=I
 cases hf with
 |n hf=>exact⟨draw p 30,c0e _ (by decide),rfl,⟨p,t,u,hl,.v hf⟩,l',gs,bd,nm⟩
 |exp hx h1 h2=>cases hx
theorem FnV.exp{d:Dr}{r:List Dr}{e:P2}{nb nb':Bool}{md:Nat}(hd:cplx d=true)(hc:CW X g)(H:∀l,Exp d l->Bnd l->FnV X n g xs ⟨l++r,e,nb,md⟩ y ⟨r,e,nb',md⟩):FnV X n g xs ⟨d::r,e,nb,md⟩ y ⟨r,e,nb',md⟩:=
 ⟨hc,λA f s vs hA S h=>by
  obtain⟨l,h1,h2,h3⟩:=S.inv.exp hd
  exact(H l h1 h2).2 A f s vs hA (S.re h3) h⟩
theorem FnV.drawn{i:Int}{r:List Dr}{e:P2}{nb nb':Bool}{md:Nat}(hc:CW X g)(H:∀d:Nat,d<30->i=(d:Int) - 9->FnV X n g xs ⟨.v 30 d::r,e,nb,md⟩ y ⟨r,e,nb',md⟩):FnV X n g xs ⟨.n i::r,e,nb,md⟩ y ⟨r,e,nb',md⟩:=
 ⟨hc,λA f s vs hA S h=>by
  obtain⟨d,h1,h2,h3⟩:=S.inv.num
  exact(H d h1 h2).2 A f s vs hA (S.re h3) h⟩
theorem fnCW(hK:IsX X){e:FnE}{a:Addr}(h:findE a fns=some e):CW X (.ref a):=by
 obtain⟨h1,h2⟩:=a0q h
 rw[←h2]
 exact e0u ((a0y hK).fn e h1).1.keep
end
noncomputable def nums:List Int:=(List.range 30).map λk=>Int.ofNat k - 9
theorem b0w{i:Int}(h1: -9≤i)(h2:i≤20):i∈nums:=List.mem_map.mpr ⟨(i+9).toNat,List.mem_range.mpr (by lia),by show(((i+9).toNat:Nat):Int) - 9=i;lia⟩
theorem l0l(σ:Gs):nums.map (λi=>RUN ovT (.ref 1258) [.int i] σ)=nums.map (λi=>some (.str (hw i),σ)):=by kernel_rfl
theorem p0z(σ:Gs):nums.map (λi=>RUN ovT (.ref 167) [.int (32768 * i)] σ)=nums.map (λi=>some (.str (hw i),σ)):=by kernel_rfl
theorem d1t:∀i∈nums,wlen (hw i)≤16:=by decide+kernel
theorem f0h:∀{w:Wd},(wlit w).isSome=true->wok w:=λ{w} h=>by
 obtain⟨l,hl⟩:=Option.isSome_iff_exists.mp h
 exact h0d hl
theorem v0v:∀i∈nums,(wlit (hw i)).isSome=true:=by decide+kernel
theorem c1h{i:Int}(h:i∈nums):wok (hh i):=⟨Nat.le_trans (a0s (f0h (v0v i h))) (d1t i h),trivial⟩
theorem toHole{X:Cx}{f:FH}{v:Value}{w w':Wd}(h:VR X f v (.str w))(e:wden w=wden w')(ho:wok w'):VR X f v (.str w'):=by
 cases h using VR.eStr with
 |str t hw=>rw[e];exact .str t ho
theorem f1258:findE 1258 fns=some e1258:=by kernel_rfl
theorem f167:findE 167 fns=some e167:=by kernel_rfl
noncomputable def ovHP:∀g xs σ,OvR IsX 8 g xs σ:=λg xs σ=>match g,xs with
 | .ref a,[.num i]=>.at 1258 λha=>.ok (.str (hh i)) σ λX hK=>.re ha (.of1 (fnCW hK f1258) λf v h=>by
   cases h using VR.eNum with
   |num t g1 g2=>
   have hm:=b0w g1 g2
   exact⟨_,.int i t,(a0g hK (b0y hK) _ _ _ _ _ (c0x (l0l σ) i hm)).res λf v h=>toHole h (a0e _ _).symm (c1h hm)⟩)
 | .ref a,[.dimn i]=>.at 167 λha=>.ok (.str (hh i)) σ λX hK=>.re ha (.of1 (fnCW hK f167) λf v h=>by
   cases h using VR.eDimn with
   |dimn t g1 g2=>
   have hm:=b0w g1 g2
   exact⟨_,.int _ t,(a0g hK (b0y hK) _ _ _ _ _ (c0x (p0z σ) i hm)).res λf v h=>toHole h (a0e _ _).symm (c1h hm)⟩)
 |_,_=>.no
noncomputable def ovH:Ov:=ovAt [1258,167] (ovOf ovHP)
theorem c1w{X:Cx}(hK:IsX X):OvOK X 8 ovH:=(b0c hK).on
noncomputable def New(X:Cx)(f':FH)(h:Heap)(a:Addr):Prop:=h.get? a=none∧¬X.G a∧f' a=none
inductive NInsR(X:Cx)(f':FH)(h h':Heap)(v:Value)(C:Addr)(fs:List (Str × V)):Prop
 |mk (a d:Addr) (es:List DictEntry) (k:Nat) (e:v= .ref a) (h1:h'.get? a=some (instObj C d)) (h2:h'.get? d=some {cls:=.type "dict",data:=.dict (List.toArray es) k}) (h3:VRd X f' es fs) (h4:New X f' h a) (h5:New X f' h d) (h6:a≠d)
inductive NTotR(X:Cx)(f':FH)(h h':Heap)(v:Value)(p q:List V):Prop
 |mk (a d:Addr) (es:List DictEntry) (k:Nat) (i j:Addr) (vs ws:List Value) (kn ks:Nat) (e:v= .ref a) (h1:h'.get? a=some (instObj 312 d)) (h2:h'.get? d=some {cls:=.type "dict",data:=.dict (List.toArray es) k}) (h3:TotE es i j)
   (h4:h'.get? i=some (listOf (List.toArray vs) kn)) (h5:h'.get? j=some (listOf (List.toArray ws) ks)) (h6:VRs X f' vs p) (h7:VRs X f' ws q) (o1:New X f' h a) (o2:New X f' h d) (o3:New X f' h i) (o4:New X f' h j) (nd:[a,d,i,j].Nodup)
noncomputable def NewOR(X:Cx)(f':FH)(h h':Heap)(v:Value):Ow->Prop
 | .lst _ _=>False
 | .ins C fs=>NInsR X f' h h' v C fs
 | .tot p q=>NTotR X f' h h' v p q
noncomputable def MkV(X:Cx)(n:Nat)(v:Value)(xs:List V)(σ:Gs)(o:Ow)(σ':Gs):Prop:=
 CW X v∧∀(A:Around)(f:FH)(s:Shared)(vs:List Value),Room X A n->St X f σ s.heap->VRs X f vs xs->∀(Q E:Value->Shared->Prop),
  (∀w f' h' t',Kp X f s.heap f' h'->St X f' σ' h'->NewOR X f' s.heap h' w o->Q w {s with heap:=h',toks:=t'})->wpAny X.M A (call v vs) Q E s
section
variable {X:Cx} {A:Around} {K:Kx} {n:Nat} {env:Env} {n₀:Bs} {vars vars':Vars} {ow:Option (Str × Ow)} {m cm:Str->Option Value} {f f':FH} {σ σ₁ σ₂ σ3:Gs} {s:Shared} {h h' h1 h2:Heap} {a:Addr} {o:Ow} {st st' st₁:Sx} {fl:Fl} {r:Stmt->Sx->Option (Fl × Sx)}
theorem Rel.newOwn(R:Rel X env n₀ f h vars ow m cm)(N:New X f' h a):Own X env n₀ f' a:=by
 obtain⟨d,ng,off⟩:=N
 have ne:∀{b:Addr},(∃o,h.get? b=some o)->b≠a:=λ{b} hb q=>by
  obtain⟨o,e⟩:=hb
  rw[q,d] at e;cases e
 refine⟨⟨?_,ng,off,λp hp=>ne ⟨_,(R.pin p hp).1⟩⟩,λq=> ?_,λx hx=>ne (R.fm.above x.1 x.2 hx).2.2⟩
 ·cases q:n₀.h₀.get? a with
  |none=>rfl
  |some o=>have:=R.kp.keep _ _ q ng;rw[d] at this;cases this
 ·obtain⟨o,es,ep,e,_⟩:=R.fm.ns
  exact ne ⟨_,e⟩ q.symm
theorem NewOR.own{v:Value}(N:NewOR X f' h h' v o)(R:Rel X env n₀ f h vars ow m cm):OR X env n₀ f' h' v o:=by
 cases o with
 |lst=>cases N
 |ins C fs=>
  obtain⟨a,d,es,k,rfl,g1,g2,g3,g4,g5,g6⟩:=N
  exact⟨a,d,es,k,rfl,g1,g2,g3,R.newOwn g4,R.newOwn g5,g6⟩
 |tot p q=>
  obtain⟨a,d,es,k,i,j,vs,ws,kn,ks,rfl,h1,h2,h3,h4,h5,h6,h7,o1,o2,o3,o4,nd⟩:=N
  exact⟨a,d,es,k,i,j,vs,ws,kn,ks,rfl,h1,h2,h3,h4,h5,h6,h7,R.newOwn o1,R.newOwn o2,R.newOwn o3,R.newOwn o4,nd⟩
theorem OR.cells{v:Value}(O:OR X env n₀ f h v o):∃L:List (Addr × Obj),(∀p∈L,Own X env n₀ f p.1∧h.get? p.1=some p.2)∧∀h',(∀p∈L,h'.get? p.1=some p.2)->OR X env n₀ f h' v o:=by
 cases o with
 |lst l n=>
  obtain⟨a,vs,k,rfl,h1,h2,h3,h4⟩:=O
  refine⟨[(a,_)],λp hp=> ?_,λh' H=>⟨a,vs,k,rfl,H _ (.head _),h2,h3,h4⟩⟩
  cases List.mem_singleton.mp hp
  exact⟨h4,h1⟩
 |ins D fs=>
  obtain⟨a,d,es,k,rfl,h1,h2,h3,h4,h5,h6⟩:=O
  refine⟨[(a,_),(d,_)],λp hp=> ?_,λh' H=>⟨a,d,es,k,rfl,H _ (.head _),H _ (.tail _ (.head _)),h3,h4,h5,h6⟩⟩
  rcases List.mem_cons.mp hp with rfl|hp
  ·exact⟨h4,h1⟩
  ·cases List.mem_singleton.mp hp
   exact⟨h5,h2⟩
 |tot p q=>
  obtain⟨a,d,es,k,i,j,vs,ws,kn,ks,rfl,h1,h2,h3,h4,h5,h6,h7,o1,o2,o3,o4,nd⟩:=O
  refine⟨[(a,_),(d,_),(i,_),(j,_)],λp hp=> ?_,λh' H=>⟨a,d,es,k,i,j,vs,ws,kn,ks,rfl,H _ (.head _),H _ (.tail _ (.head _)),h3,H _ (.tail _ (.tail _ (.head _))),H _ (.tail _ (.tail _ (.tail _ (.head _)))),h6,h7,o1,o2,o3,o4,nd⟩⟩
  rcases List.mem_cons.mp hp with rfl|hp
  ·exact⟨o1,h1⟩
  rcases List.mem_cons.mp hp with rfl|hp
  ·exact⟨o2,h2⟩
  rcases List.mem_cons.mp hp with rfl|hp
  ·exact⟨o3,h4⟩
  cases List.mem_singleton.mp hp
  exact⟨o4,h5⟩
theorem Rel.pinL(R:Rel X env n₀ f h vars none m cm){L:List (Addr × Obj)}(hL:∀p∈L,Own X env n₀ f p.1∧h.get? p.1=some p.2):Rel X env {n₀ with pins:=L++n₀.pins} f h vars none m cm:=by
 refine⟨R.kp,R.me,λp hp=> ?_,⟨R.fm.ns,⟨R.fm.lo.at0,R.fm.lo.ng,R.fm.lo.off,λp hp=> ?_⟩,R.fm.cell,R.fm.apart,λx c e=> ?_⟩,R.vars,λx o e=>by cases e⟩
 ·rcases List.mem_append.mp hp with hp|hp
  ·obtain⟨o1,o2⟩:=hL p hp
   exact⟨o2,o1.1.ng,o1.1.at0,o1.1.off⟩
  ·exact R.pin p hp
 ·rcases List.mem_append.mp hp with hp|hp
  ·exact(hL p hp).1.2.1
  ·exact R.fm.lo.pin p hp
 ·obtain⟨b1,b2,b3⟩:=R.fm.above x c e
  refine⟨⟨b1.at0,b1.ng,b1.off,λp hp=> ?_⟩,b2,b3⟩
  rcases List.mem_append.mp hp with hp|hp
  ·exact λq=>(hL p hp).1.2.2 (x,c) e q.symm
  ·exact b1.pin p hp
theorem Rel.backL{L:List (Addr × Obj)}{x:Str}{v:Value}(R:Rel X env {n₀ with pins:=L++n₀.pins} f h vars none m cm)(back:∀h',(∀p∈L,h'.get? p.1=some p.2)->OR X env n₀ f h' v o)(hv:valOf env m cm x=some v):Rel X env n₀ f h vars (some (x,o)) m cm:=by
 have R':=R.unpin (n₀:=n₀) λp hp=>List.mem_append_right _ hp
 refine⟨R'.kp,R'.me,R'.pin,R'.fm,R'.vars,λx' o' e=> ?_⟩
 cases e
 exact⟨v,hv,back h λp hp=>(R.pin p (List.mem_append_left _ hp)).1⟩
theorem Rel.weak(R:Rel X env n₀ f h vars ow m cm)(H:∀x y,look x vars'=some y->∃y',look x vars=some y'∧∀v,VR X f v y'->VR X f v y):Rel X env n₀ f h vars' ow m cm:=
 ⟨R.kp,R.me,R.pin,R.fm,λx y e=>by
  obtain⟨y',e1,e2⟩:=H x y e
  obtain⟨v,b1,b2⟩:=R.vars x y' e1
  exact⟨v,b1,e2 v b2⟩,R.own⟩
theorem evalMk(EK:KxOK X n K)(hA:Room X A n)(C:Cz X env n₀){k k':Nat}{c:Str}{cp cpos:Pos}{g:Value}{args:List Expr}{xs:List V}(R:Rel X env n₀ f s.heap vars ow m cm)(S:St X f σ s.heap)
  (hn:ev K k env.scope vars false (.Name c cp) σ=some (.con g,σ3))(hp:allPlain args=true)(ha:evs (ev K k' env.scope vars false) args σ3=some (xs,σ₁))(MV:MkV X n g xs σ₁ o σ₂){Q E:Value->Shared->Prop}
  (hQ:∀w f' h' t',Kp X f s.heap f' h'->St X f' σ₂ h'->OR X env n₀ f' h' w o->Q w {s with heap:=h',toks:=t'}):wpAny X.M A (eval (.Call (.Name c cp) args [] cpos) env) Q E s:=by
 have HE:=(b0q EK hA k env n₀ vars ow m cm C).1
 have HE':=(b0q EK hA k' env n₀ vars ow m cm C).1
 refine c0l (HE (.Name c cp) σ _ _ f s hn R S _ _ λva f1 hp1 t1 K1 S1 r1=> ?_)
 cases r1
 rw[a0k hp]
 refine MV.1 _ _ _ _ _ _ _ (d0c args env) (a0n (λz hz=> ?_) ?_)
 ·obtain⟨e,_,rfl⟩:=List.mem_map.mp hz;rfl
 ·refine j0p C HE' args σ3 xs _ f1 _ ha (R.kp' K1) S1 _ _ λvs f2 hp2 t2 K2 S2 r2=>⟨S2.kin,?_⟩
  exact MV.2 A f2 {s with heap:=hp2,toks:=t2} vs hA S2 r2 _ _ λw f3 hp3 t3 K3 S3 N=>hQ w f3 hp3 t3 ((K1.trans K2).trans K3) S3 (N.own ((R.kp' K1).kp' K2))
theorem l0d{x:Str}{y:V}:∀{vs:Vars},look x vs=none->look x (vs++(x,y)::vars)=some y
 |[],_=>by rw[List.nil_append,b0g,if_pos rfl]
 |(k,w)::r,h=>by
  rw[b0g] at h
  rw[List.cons_append,b0g]
  split at h
  ·cases h
  ·rename_i q
   rw[if_neg q]
   exact l0d h
theorem l0o{x:Str}{w:Value}:∀{vs:Vars}{z:Str}{y:V},look z (vs++(x,.any)::vars)=some y->∃y',look z (vs++(x,.con w)::vars)=some y'∧∀v,VR X f v y'->VR X f v y
 |[],z,y,h=>by
  rw[List.nil_append,b0g] at h
  rw[List.nil_append,b0g]
  split at h
  ·cases h
   rename_i q
   exact⟨_,if_pos q,λv x0=>.any v⟩
  ·rename_i q
   exact⟨y,by rw[if_neg q];exact h,λx0 h=>h⟩
 |(k,u)::r,z,y,h=>by
  rw[List.cons_append,b0g] at h
  rw[List.cons_append,b0g]
  split at h
  ·cases h
   rename_i q
   exact⟨_,if_pos q,λx0 h=>h⟩
  ·rename_i q
   rw[if_neg q]
   exact l0o h
theorem m0y(EK:KxOK X n K)(hA:Room X A n)(C:Cz X env n₀){k k':Nat}{x c:Str}{p cp cpos pos:Pos}{g:Value}{args:List Expr}{xs:List V}(R:Rel X env n₀ f s.heap vars none m cm)(S:St X f σ s.heap)
  (hn:ev K k env.scope vars false (.Name c cp) σ=some (.con g,σ3))(hp:allPlain args=true)(ha:evs (ev K k' env.scope vars false) args σ3=some (xs,σ₁))(MV:MkV X n g xs σ₁ o σ₂)
  (hx:asgN env.scope x .any ⟨vars,none,σ₂⟩=some st₁):
  TrS X A env n₀ (exec (.Assign [.Name x p] (.Call (.Name c cp) args [] cpos) pos) env) f st s .next ⟨st₁.vars,some (x,o),σ₂⟩:=by
 intro Q E hQ
 refine wpAny_Assign_Name ?_ (a0r rfl)
 refine evalMk EK hA C R S hn hp ha MV λw f' h' t' K' S' O=> ?_
 obtain⟨L,hL,back⟩:=O.cells
 have R':=(R.kp' K').pinL hL
 obtain⟨g1,g2,g3,rfl⟩:=c0t hx
 refine c0w (s:={s with heap:=h',toks:=t'}) (C.pins _) R' S' (.any w) g2 g3 λh4 t4 m4 cm4 S4 R4 hv=> ?_
 exact hQ _ f' h4 t4 m4 cm4 .next K'.le S4 (R4.backL back hv)
theorem m0o(EK:KxOK X n K)(hlp:K.lp=true)(hA:Room X A n)(C:Cz X env n₀){k k' k'' kk k2:Nat}{x c:Str}{p cp cpos p2 pos:Pos}{g:Value}{args es ts:List Expr}{xs ys:List V}{vs1:Vars}{σ0:Gs}(R:Rel X env n₀ f s.heap vars none m cm)(S:St X f σ s.heap)
  (hn:ev K k env.scope vars false (.Name c cp) σ=some (.con g,σ0))(hp:allPlain args=true)(ha:evs (ev K k' env.scope vars false) args σ0=some (xs,σ₁))(MV:MkV X n g xs σ₁ o σ₂)
  (hsw:pureOf (swappedStores [.Tuple ts kk p] (.Tuple (.Call (.Name c cp) args [] cpos::es) k2 p2) (dum env.scope))=some none)(hp2:allPlain es=true)(hl:Nat.ble es.length 900=true)(hes:evs (ev K k'' env.scope vars false) es σ₂=some (ys,σ3))
  (hx:∀w,asg env.scope (.Tuple ts kk p) (.tup (.con w::ys)) ⟨vars,none,σ3⟩=some ⟨vs1++(x,.con w)::vars,none,σ3⟩)(hn1:look x vs1=none):
  TrS X A env n₀ (exec (.Assign [.Tuple ts kk p] (.Tuple (.Call (.Name c cp) args [] cpos::es) k2 p2) pos) env) f st s .next ⟨vs1++(x,.any)::vars,some (x,o),σ3⟩:=by
 have HE:=(b0q EK hA k'' env n₀ vars none m cm C).1
 intro Q E hQ
 refine Assign_Tuple ?_ (f0b rfl) ((d0e _ _ env).trans (a0z hsw))
 refine Tuple_ ?_
 rw[a0k (show allPlain (.Call (.Name c cp) args [] cpos::es)=true from hp2)]
 refine Calls.spliced_cons (evalMk EK hA C R S hn hp ha MV λw f1 h1 t1 K1 S1 O=> ?_)
 have R1:=R.kp' K1
 refine j0p C HE es σ₂ ys σ3 f1 {s with heap:=h1,toks:=t1} hes R1 S1 _ _ λvs f2 h2 t2 K2 S2 r2=> ?_
 refine wpAny_newTuple ?_ (by have:=r2.length;have:=o0n hes;have:=Nat.le_of_ble_eq_true hl;rw[line24];simp;lia)
 have z:=S2.alloc (o:={cls:=.type "tuple",data:=.seq (w::vs).toArray}) rfl
 have O3:=(O.kp K2).kp z.2
 have R3:=((R1.kp' K2).kp' z.2)
 obtain⟨L,hL,back⟩:=O3.cells
 have R4:=R3.pinL hL
 refine o0c (s:={s with heap:=h2.push {cls:=.type "tuple",data:=.seq (w::vs).toArray},toks:=t2}) (hA.1 (EK.lp hlp)) (C.pins _) (hx w) (.tup (FH.put_self ..) (.cons (.con w) (r2.mono z.2.le))) R4 z.1 _ _ λh4 t4 m4 cm4 S4 R5=> ?_
 obtain⟨v',b1,b2⟩:=R5.vars x (.con w) (l0d hn1)
 cases b2 using VR.eCon
 exact hQ _ _ h4 t4 m4 cm4 .next (K1.le.trans (K2.le.trans z.2.le)) S4 ((R5.backL back b1).weak λz y=>l0o)
end
noncomputable def PutOK(K:Ec)(x:Str)(D:Addr)(es:List Expr)(ys:List V)(fs fs':List (Str × V)):Prop:=∀(env:Env),(assignEach es env).length=ys.length∧(assignEach es env).findIdx? (·.1)=none∧
 ∀(X:Cx)(A:Around)(n₀:Bs)(vars:Vars)(m cm:Str->Option Value)(f:FH)(σ:Gs)(vs:List Value)(s:Shared),EcOK X K->Cz X env n₀->VRs X f vs ys->Rel X env n₀ f s.heap vars (some (x,.ins D fs)) m cm->St X f σ s.heap->
  ∀(Q:Unit->Shared->Prop)(E:Value->Shared->Prop),(∀h' t',St X f σ h'->Rel X env n₀ f h' vars (some (x,.ins D fs')) m cm->Q () {s with heap:=h',toks:=t'})->wpAny X.M A (assignInOrder ((assignEach es env).map (·.2)) vs) Q E s
theorem z0a{K:Ec}{x:Str}{D:Addr}{fs:List (Str × V)}:PutOK K x D [] [] fs fs:=λenv=>⟨rfl,rfl,λX A n₀ vars m cm f σ vs s EK C hv R S Q E hQ=>by
 cases hv
 exact assignInOrder_nil (hQ s.heap s.toks S R)⟩
theorem u0i{K:Ec}{x:Str}{D:Addr}{fs fs':List (Str × V)}{p q:Pos}{a:Str}{r:List Expr}{y:V}{ys:List V}(g2:okName x=true)(g3:setOk K D a=true)(g4:Nat.ble fs.length 900=true)(h:PutOK K x D r ys (putF a y fs) fs'):PutOK K x D (.Attribute (.Name x p) a q::r) (y::ys) fs fs':=λenv=>by
 have z:=h env
 refine⟨congrArg Nat.succ z.1,?_,λX A n₀ vars m cm f σ vs s EK C hv R S Q E hQ=> ?_⟩
 ·show((false,assign (.Attribute (.Name x p) a q) env)::assignEach r env).findIdx? (·.1)=none
  rw[List.findIdx?_cons,z.2.1];rfl
 ·cases hv with
  | @cons v _ vs _ hv hr=>
  obtain⟨ov,hov,O⟩:=R.own _ _ rfl
  refine assignInOrder_cons ?_
  show wpAny X.M A (assign (.Attribute (.Name x p) a q) env v) _ E s
  rw[assign_Attribute]
  refine wpAny_bind (wpAny_holding (wpAny_Name (b0o C R.fm hov (a0v g2).2 (wpAny_bind (wpAny_standAt (wpAny_bind (wpAny_holding ?_))))) (a0v g2).1))
  exact d0f (K:={toEc:=K,C:=λx0 x0 x0=>none}) EK C R S g3 g4 hv hov λh3 t3 S3 R3=>wpAny_release (z.2.2 X A n₀ vars m cm f σ vs {s with heap:=h3,toks:=t3} EK C hr R3 S3 Q E hQ)
noncomputable def putMore(K:Ec)(x:Str)(D:Addr)(e:Expr)(r:List Expr)(y:V)(ys:List V)(fs:List (Str × V))(rc:(fs:List (Str × V))->Option {fs':List (Str × V) // PutOK K x D r ys fs fs'}):Option {fs':List (Str × V) // PutOK K x D (e::r) (y::ys) fs fs'}:=match e with
 | .Attribute (.Name z _) a _=>onT (seq z x) λg1=>onT (okName x) λg2=>onT (setOk K D a) λg3=>onT (Nat.ble fs.length 900) λg4=>onP (rc (putF a y fs)) λfs' h=>some ⟨fs',by
  cases(a0h _ _).mp g1
  exact u0i g2 g3 g4 h⟩
 |_=>none
noncomputable def putP(K:Ec)(x:Str)(D:Addr):(es:List Expr)->(ys:List V)->(fs:List (Str × V))->Option {fs':List (Str × V) // PutOK K x D es ys fs fs'}
 |[],[],fs=>some ⟨fs,z0a⟩
 |e::r,y::ys,fs=>putMore K x D e r y ys fs (putP K x D r ys)
 |_,_,_=>none
section
variable {X:Cx} {A:Around} {K:Kx} {n:Nat} {env:Env} {n₀:Bs} {vars vars':Vars} {ow:Option (Str × Ow)} {m cm:Str->Option Value} {f f':FH} {σ σ₁ σ₂ σ3:Gs} {s:Shared} {h h' h1 h2:Heap} {a:Addr} {o:Ow} {st st' st₁:Sx} {fl:Fl} {r:Stmt->Sx->Option (Fl × Sx)}
theorem t0l(EK:EcOK X K.toEc)(hA:A.handled=none)(C:Cz X env n₀){x:Str}{D:Addr}{es:List Expr}{kk:Nat}{p pos:Pos}{e:Expr}{y:V}{ys:List V}{fs fs':List (Str × V)}(R:Rel X env n₀ f s.heap vars (some (x,.ins D fs)) m cm)
  (hc:notComp e=true)(hsw:pureOf (swappedStores [.Tuple es kk p] e (dum env.scope))=some none)(HE:Tr X A (eval e env) f σ s y σ₁)(hu:∀(X:Cx)(f:FH)(v:Value),VR X f v y->VR X f v (.tup ys))(hp:PutOK K.toEc x D es ys fs fs'):
  TrS X A env n₀ (exec (.Assign [.Tuple es kk p] e pos) env) f st s .next ⟨vars,some (x,.ins D fs'),σ₁⟩:=by
 intro Q E hQ
 refine Assign_Tuple (HE _ _ λv f1 h1 t1 K1 S1 r1=> ?_) (f0b hc) ((d0e _ _ env).trans (a0z hsw))
 have R1:=R.kp' K1
 have hv:=hu _ _ _ r1
 cases hv using VR.eTup with
 | @tup a vs fv rv=>
 have l:=hp env
 refine assign_Tuple_tuple hA (S1.tup fv) (by rw[l.1,List.size_toArray,rv.length]) l.2.1 λh' he=> ?_
 obtain⟨R',S'⟩:=R1.turn C S1 (I:=h1.objs.size) (.inl ⟨dead _,λhg=>Nat.lt_irrefl _ (S1.inv.lt _ hg)⟩) he (B2:=n₀) rfl rfl λp hp=>.inl ⟨hp,λq=>by
  have:=(R1.pin p hp).1;rw[q,dead] at this;cases this⟩
 exact l.2.2 _ _ _ _ _ _ _ _ vs {s with heap:=h',toks:=t1} EK C rv R' S' _ _ λh2 t2 S2 R2=>hQ _ f1 h2 t2 m cm .next K1.le S2 R2
set_option tactic.hygienic true in
theorem a0w(C:Cz X env n₀)(HR:SndS X A env n₀ r){b:List Stmt}:∀(es:List Stmt)(st st₁:Sx)(f:FH)(s:Shared)(m cm:Str->Option Value),evSs r es st=some (.next,st₁)->Rel X env n₀ f s.heap st.vars st.ow m cm->St X f st.σ s.heap->
  (∀f1 h1 t1 m1 cm1,f.le f1->Rel X env n₀ f1 h1 st₁.vars st₁.ow m1 cm1->St X f1 st₁.σ h1->TrS X A env n₀ (execs b env) f1 st₁ {s with heap:=h1,toks:=t1} fl st')->TrS X A env n₀ (execs (es++b) env) f st s fl st'
 |[],st,st₁,f,s,m,cm,h,R,S,H=>by
  cases h
  exact H f s.heap s.toks m cm (FH.le.refl f) R S
 |e::es,st,st₁,f,s,m,cm,h,R,S,H=>by
  rw[n0c] at h
  split at h
  ·rename_i st₂ h1
   intro Q E hQ
   refine wpAny_execs_cons (HR e st _ st₂ f s m cm h1 R S _ _ λfl' f1 hp1 t1 m1 cm1 r1 K1 S1 R1=> ?_)
   cases r1
   exact a0w C HR es st₂ st₁ f1 {s with heap:=hp1,toks:=t1} m1 cm1 h R1 S1 (λf2 h2 t2 m2 cm2 le R S=>H f2 h2 t2 m2 cm2 (K1.trans le) R S) _ _ λfl' f2 hp2 t2 m2 cm2 r2 K2 S2 R2=>hQ fl' f2 hp2 t2 m2 cm2 r2 (K1.trans K2) S2 R2
  ·rename_i hne h1
   cases h
   exact absurd rfl hne
  ·cases h
theorem TrS.consE{e:Stmt}{b:List Stmt}(H1:TrS X A env n₀ (exec e env) f st s .next st₁)(H:∀f1 h1 t1 m1 cm1,f.le f1->Rel X env n₀ f1 h1 st₁.vars st₁.ow m1 cm1->St X f1 st₁.σ h1->TrS X A env n₀ (execs b env) f1 st₁ {s with heap:=h1,toks:=t1} fl st'):
  TrS X A env n₀ (execs (e::b) env) f st s fl st':=by
 intro Q E hQ
 refine wpAny_execs_cons (H1 _ _ λfl' f1 hp1 t1 m1 cm1 r1 K1 S1 R1=> ?_)
 cases r1
 exact H f1 hp1 t1 m1 cm1 K1 R1 S1 _ _ λfl' f2 hp2 t2 m2 cm2 r2 K2 S2 R2=>hQ fl' f2 hp2 t2 m2 cm2 r2 (K1.trans K2) S2 R2
theorem a1l{D:FnD}{xs dxs:List V}(hF:FnIs X.K a D)(hs:ScOk D)(hd:∀f,BaseIn X f->VRs X f D.dv dxs)(h1:Nat.ble xs.length D.names.length=true)(h2:Nat.ble dxs.length D.names.length=true)(h3:Nat.ble D.names.length (xs.length+dxs.length)=true)
  (H:∀(A:Around)(env:Env)(B:Bs)(f:FH)(s:Shared)(m cm:Str->Option Value),Room X A n->env.scope=D.sc->Cz X env B->Rel X env B f s.heap (varsOf D xs dxs) none m cm->St X f σ s.heap->TrS X A env B (execs D.body env) f ⟨varsOf D xs dxs,none,σ⟩ s fl st'):
  FnV X (n+1) (.ref a) xs σ (retOf fl) st'.σ:=by
 refine⟨e0u hF.keep,λA f s vs hA S hv Q E hQ=>wpAny_call ?_⟩
 have hdv:=hd f S.base
 have l1:=hv.length
 have l2:=hdv.length
 refine c0d (B:=⟨f,s.heap,[],none⟩) hF hs S Kp.refl rfl (statics S) hv hdv (by rw[l1];exact Nat.le_of_ble_eq_true h1) (by rw[l2];exact Nat.le_of_ble_eq_true h2) (by rw[l1,l2];exact Nat.le_of_ble_eq_true h3) hA.rec (ow:=none)
  (λenv h m cm x0 x0 x0 x o e=>by cases e) (λv e=>by cases e) λenv h t m cm hsc C R S'=> ?_
 refine H (A.deeper env) env _ f {s with heap:=h,toks:=t} m cm (hA.deeper env) hsc C R S' _ _ λfl' f' h' t' m' cm' r le S'' R'=> ?_
 cases r with
 |next=>exact hQ _ f' h' t' R'.kp S'' .none
 |brk=>exact hQ _ f' h' t' R'.kp S'' .none
 |ret r=>exact hQ _ f' h' t' R'.kp S'' r
theorem z0b{xs dxs:List V}{D:FnD}{W:List Str}(EK:KxOK X n K){C g:Addr}(hM:Mk X.K C g)(hF:FnIs X.K g D)(hs:ScOk D)(hd:∀f,BaseIn X f->VRs X f D.dv dxs){ns:List Str}(hn:D.names=("self":Str)::ns)(k:Nat)
  (h1:Nat.ble (xs.length+1) D.names.length=true)(h2:Nat.ble dxs.length D.names.length=true)(h3:Nat.ble D.names.length (xs.length+1+dxs.length)=true){fs:List (Str × V)}
  (he:evSs (evS K W D.sc k) D.body ⟨varsOf D (.any::xs) dxs,some ("self",.ins C []),σ⟩=some (.next,st'))(ho:st'.ow=some (("self":Str),Ow.ins C fs)):MkV X (n+1) (.ref C) xs σ (.ins C fs) st'.σ:=
 ⟨e0u hM.keep,λA f s vs hA S hv Q E hQ=>w0f EK hM hF hs hd hn k W h1 h2 h3 he ho hA S hv λx d es k f' h' t' K' S' g1 g2 g3 x1 x2 x3 d1 d2 d3 ne=>
  hQ _ f' h' t' K' S' ⟨x,d,es,k,rfl,g1,g2,g3,⟨x1,x2,x3⟩,⟨d1,d2,d3⟩,ne⟩⟩
end
noncomputable abbrev Mk2:=Addr->List V->Gs->Option (Ow × Gs)
section
variable {X:Cx} {A:Around} {K:Kx} {n m:Nat} {env:Env} {n₀:Bs} {vars vars':Vars} {ow:Option (Str × Ow)} {mm cm:Str->Option Value} {f f':FH} {σ σ₁ σ₂ σ3:Gs} {s:Shared} {h h' h1 h2:Heap} {a:Addr} {o:Ow} {st st' st₁:Sx} {fl:Fl} {T:Ec} {fns:List FnE} {mks:List (Addr × Addr)} {MK:Mk2} {W:List Str}
end
noncomputable def MkOK(X:Cx)(n:Nat)(MK:Mk2):Prop:=∀C xs σ o σ',MK C xs σ=some (o,σ')->MkV X n (.ref C) xs σ o σ'
noncomputable def MkROK(K:Kx)(fns:List FnE)(mks:List (Addr × Addr))(C:Addr)(xs:List V)(σ:Gs)(p:Ow × Gs):Prop:=∀(X:Cx)(n:Nat)(T:Ec),TabOK X T fns mks->KxOK X n K->MkV X (n+1) (.ref C) xs σ p.1 p.2
noncomputable def mkRP(K:Kx)(fns:List FnE)(mks:List (Addr × Addr))(k:Nat)(C:Addr)(xs:List V)(σ:Gs):Option {p:Ow × Gs // MkROK K fns mks C xs σ p}:=onS (lookA C mks) λg hg=>onS (findE g fns) λd hd=>match hn:d.D.names with
 |z::ns=>onT (seq z "self") λh0=>onT (Nat.ble (xs.length+1) d.D.names.length) λh1=>onT (Nat.ble d.dxs.length d.D.names.length) λh2=>onT (Nat.ble d.D.names.length (xs.length+1+d.dxs.length)) λh3=>match he:evSs (evS K d.W d.D.sc k) d.D.body ⟨varsOf d.D (.any::xs) d.dxs,some ("self",.ins C []),σ⟩ with
  |some (.next,⟨vs,some (y,.ins D fs),σ'⟩)=>onT (seq y "self") λq1=>onT (Nat.beq D C) λq2=>some ⟨(.ins C fs,σ'),λX n T TK EK=>by
   cases(a0h _ _).mp h0
   cases(a0h _ _).mp q1
   cases Nat.eq_of_beq_eq_true q2
   have hm:=a0q hd
   obtain⟨t1,t2,t3⟩:=TK.fn _ hm.1
   have hmk:=TK.made _ (b0h hg)
   rw[←hm.2] at hmk
   exact z0b EK hmk t1 t2 t3 hn k h1 h2 h3 he rfl⟩
  |_=>none
 |[]=>none
noncomputable def mkR(K:Kx)(fns:List FnE)(mks:List (Addr × Addr))(k:Nat):Mk2:=λC xs σ=>valO (mkRP K fns mks k C xs σ)
section
variable {X:Cx} {A:Around} {K:Kx} {n m:Nat} {env:Env} {n₀:Bs} {vars vars':Vars} {ow:Option (Str × Ow)} {mm cm:Str->Option Value} {f f':FH} {σ σ₁ σ₂ σ3:Gs} {s:Shared} {h h' h1 h2:Heap} {a:Addr} {o:Ow} {st st' st₁:Sx} {fl:Fl} {T:Ec} {fns:List FnE} {mks:List (Addr × Addr)} {MK:Mk2} {W:List Str}
theorem c1r{k:Nat}(TK:TabOK X T fns mks)(EK:KxOK X n K):MkOK X (n+1) (mkR K fns mks k):=λC xs σ o σ' e=>a0t (o:=mkRP K fns mks k C xs σ) (z:=(o,σ')) e X n T TK EK
theorem s0l{sc:Scope}{V0:Vars}:∀{xs:List Str}{ys:List V}{v:Vars}{σ:Gs}{st₁:Sx},asgs sc xs ys ⟨v,none,σ⟩=some st₁->asgs sc xs ys ⟨v++V0,none,σ⟩=some ⟨st₁.vars++V0,none,σ⟩:=by
 intro xs
 induction xs with
 |nil=>intro ys v σ st₁ h;obtain⟨rfl,rfl⟩:=h0a h;rfl
 |cons x r ih=>
  intro ys v σ st₁ h
  obtain⟨y,yr,st₂,rfl,h2,h⟩:=f0w h
  obtain⟨g1,g2,g3,rfl⟩:=c0t h2
  show(match asgN sc x y ⟨v++V0,none,σ⟩ with|some st₁=>asgs sc r yr st₁|none=>none)=_
  rw[p0a g1 g2 g3]
  exact ih (v:=(x,y)::v) h
theorem e0c{prog:Program}{w:World}{l:Addr}{items:Array Value}{n:Nat}{k:Int}{t:Tok}{v:Value}{Q:Unit->Shared->Prop}{E:Value->Shared->Prop}(hl:s.heap.get? l=some (listOf items n))(h0:0≤k)(hk:k<items.size)(hfit:k<2 ^ 63)
  (hQ:∀h' n',h'.get? l=some (listOf (items.setIfInBounds k.toNat v) n')->Heap.SameBut l s.heap h'->Q () {s with heap:=h'}):wpAny (model prog w) A (setItem (.ref l) (.int k t) v) Q E s:=by
 have L:s.heap.IsList l items:=⟨_,hl,rfl,n,rfl⟩
 unfold setItem
 try with_reducible refine wpAny_holding ?_
 first|refine wpAny_bind (wpAny_pure ?_)|skip
 refine wpAny_bind (wpAny_sequenceKey L.typeIs (by decide) ?_)
 refine wpAny_bind (wpAny_callSpecial?_slot (name:=Str.ofString "__setitem__") L.typeIs slot_list_setitem (wpAny_call_entry slot_list_setitem L.typeIs entry_list_setitem ?_ (args_list_setitem _ _ _)))
 show wpAny _ _ (Builtin.List.listSubscript? (.int k t) >>= _) _ _ s
 refine wpAny_bind (wpAny_listSubscript_int (fitsIndex_of h0 hfit) ?_)
 clear hfit
 obtain⟨j,rfl⟩:=Int.eq_ofNat_of_zero_le h0
 have hj:j<items.size:=by lia
 have hx:items[j]? =some items[j]:=Array.getElem?_eq_getElem hj
 show wpAny _ _ ((seqItemAt l j >>= λr=>pure (r.map (j,·))) >>= _) _ _ s
 refine wpAny_bind (wpAny_bind (wpAny_seqItemAt hl rfl (wpAny_pure ?_)))
 rw[hx]
 show wpAny _ _ (setSeqItemAt l j v >>= _) _ _ s
 refine wpAny_bind (wpAny_setSeqItemAt hl rfl ?_)
 have e:(s.heap.update l (Obj.mapSeq (·.setIfInBounds j v))).get? l=some (listOf (items.setIfInBounds j v) (if(items.setIfInBounds j v).size==items.size then n else n+1)):=Heap.get?_update_self _ hl rfl
 first
  |exact wpAny_bind (wpAny_pure (wpAny_pure ⟨.none,rfl,wpAny_pure (hQ _ _ e (Heap.SameBut.update ..))⟩))
  |exact wpAny_pure ⟨.none,rfl,wpAny_pure (hQ _ _ e (Heap.SameBut.update ..))⟩
theorem VRs.set{y:V}{w:Value}(hw:VR X f w y):∀{vs:List Value}{l:List V}(j:Nat),VRs X f vs l->VRs X f (vs.set j w) (l.set j y)
 |_,_,_,.nil=>.nil
 |_,_,0,.cons _ r=>.cons hw r
 |_,_,j+1,.cons h r=>.cons h (VRs.set hw j r)
theorem j0i(EK:KxOK X n K)(hA:Room X A n)(C:Cz X env n₀){k:Nat}{x a:Str}{xp ap ip pos:Pos}{i e:Expr}{p q:List V}{y jv:V}{labs:List Str}{jn:Nat}(R:Rel X env n₀ f s.heap vars (some (x,.tot p q)) mm cm)(S:St X f σ s.heap)
  (h2:okName x=true)(h3:notComp e=true)(h5:ev K k env.scope vars false e σ=some (y,σ₁))(h6:ev K k env.scope vars false i σ₁=some (jv,σ₂))(h7:jv.toInt? =some (jn:Int))(h8:p.length=4)(h9:q.length=4)(h10:lookA 312 K.absent=some labs)(h13:memS a labs=true)(hj:jn<4)
  (hsel:(a="stretch"∧o= .tot (p.set jn y) q)∨(a="shrink"∧o= .tot p (q.set jn y))):TrS X A env n₀ (exec (.Assign [.Subscript (.Attribute (.Name x xp) a ap) i ip] e pos) env) f st s .next ⟨vars,some (x,o),σ₂⟩:=by
 have HE:=(b0q EK hA k env n₀ vars (some (x,.tot p q)) mm cm C).1
 obtain⟨o1,o2⟩:=a0v h2
 intro Q E hQ
 refine wpAny_Assign_Subscript (HE e σ y σ₁ f s h5 R S _ _ λva f1 hp1 t1 K1 S1 r1=> ?_) (a0r h3)
 have R1:=R.kp' K1
 obtain⟨v,hv,O⟩:=R1.own _ _ rfl
 obtain⟨ad,d,es,kk,li,lj,vs,ws,kn,ks,rfl,g1,g2,g3,g4,g5,g6,g7,q1,q2,q3,q4,nd⟩:=id O
 have hd:VRd X f1 es [("natural",.int 0),("stretch",.con (.ref li)),("shrink",.con (.ref lj))]:=by
  obtain⟨t,t1,t2,t3,e1,e2,e3,rfl⟩:=g3
  exact .cons rfl (.int _ _) (.cons rfl (.con _) (.cons rfl (.con _) .nil))
 have I:InstAt hp1 ad (instObj 312 d) 312 (some (dictOf es kk)):=⟨g1,rfl,rfl,g2⟩
 have getA:∀(l:Addr),look a [("natural",V.int 0),("stretch",.con (.ref li)),("shrink",.con (.ref lj))]=some (.con (.ref l))->∀(Q:Value->Shared->Prop)(E:Value->Shared->Prop)(ex:Bool),(∀t',Q (.ref l) {s with heap:=hp1,toks:=t'})->wpAny X.M A (getAttr (.ref ad) a ex) Q E {s with heap:=hp1,toks:=t1}:=by
  intro l hl Q E ex hq
  obtain⟨v,b1,b2⟩:=j0q hd hl
  cases b2 using VR.eCon
  obtain⟨p1,p2⟩:=EK.absent _ (b0h h10)
  obtain⟨p3,p4⟩:=p2 _ (d0r h13)
  exact get_value S1.kin I (plainGet_of p3).1 (findObj_own p1 p4 rfl (by rw[lookIn_dict];exact b1)) rfl (hq _)
 simp only [List.nodup_cons,List.mem_cons,List.not_mem_nil,or_false,not_or] at nd
 obtain⟨⟨n1,n2,n3⟩,⟨n4,n5⟩,n6,n7,n8⟩:=nd
 have setA:∀(l:Addr)(us:List Value)(m:Nat)(rs:List V)(o':Ow)(Q:Unit->Shared->Prop)(E:Value->Shared->Prop),hp1.get? l=some (listOf us.toArray m)->VRs X f1 us rs->rs.length=4->Own X env n₀ f1 l->
   (∀f2 h2 h3 m',Kp X f1 hp1 f2 h2->Heap.SameBut l h2 h3->h3.get? l=some (listOf (us.set jn va).toArray m')->VRs X f2 (us.set jn va) (rs.set jn y)->OR X env n₀ f2 h3 (.ref ad) o')->
   (∀f2 h3 t3,f.le f2->St X f2 σ₂ h3->Rel X env n₀ f2 h3 vars (some (x,o')) mm cm->Q () {s with heap:=h3,toks:=t3})->∀t',wpAny X.M A (eval i env) (λiv s₂=>wpAny X.M A (setItem (.ref l) iv va) Q E s₂) E {s with heap:=hp1,toks:=t'}:=by
  intro l us m rs o' Q E b1 b2 b3 b4 hO hq t'
  refine HE i σ₁ jv σ₂ f1 {s with heap:=hp1,toks:=t'} h6 R1 S1 _ _ λvj f2 hp2 t2 K2 S2 r2=> ?_
  obtain⟨t3,rfl⟩:=r2.toInt h7
  have R2:=R1.kp' K2
  have l2:=K2.keep _ _ b1 b4.1.ng
  refine e0c (s:={s with heap:=hp2,toks:=t2}) l2 (Int.natCast_nonneg _) (by rw[List.size_toArray,b2.length,b3];lia) (by lia) λh3 m' l3 hs=> ?_
  have hset:(us.toArray.setIfInBounds (Int.ofNat jn).toNat va)=(us.set jn va).toArray:=by simp
  rw[show((jn:Int)).toNat=(Int.ofNat jn).toNat from rfl,hset] at l3
  obtain⟨R3,S3⟩:=R2.mut (ow':=some (x,o')) C S2 (b4.kp b1 K2) hs λx' o'' e=>by
   cases e
   exact⟨_,hv,hO f2 hp2 h3 m' K2 hs l3 (VRs.set (r1.mono K2.le) jn (b2.mono K2.le))⟩
  exact hq f2 h3 _ (K1.le.trans K2.le) S3 R3
 refine Attribute_any_ (he:=rfl) (wpAny_Name (b0o (s:={s with heap:=hp1,toks:=t1}) C R1.fm hv o2 ?_) o1)
 rcases hsel with⟨rfl,rfl⟩|⟨rfl,rfl⟩
 ·refine getA li (by kernel_rfl) _ _ _ λt'=> ?_
  refine setA li vs kn p (.tot (p.set jn y) q) _ _ g4 g6 h8 q3 (λf2 h2 h3 m' K2 hs l3 r3=> ?_) (λf2 h3 t3 le S3 R3=>hQ _ f2 h3 t3 mm cm .next le S3 R3) t'
  have kk2:∀{b:Addr}{o:Obj},Own X env n₀ f1 b->hp1.get? b=some o->b≠li->h3.get? b=some o:=λow e ne=>(hs.2 _ ne).trans (K2.keep _ _ e ow.1.ng)
  exact⟨ad,d,es,kk,li,lj,_,ws,m',ks,rfl,kk2 q1 g1 n2,kk2 q2 g2 n4,g3,l3,kk2 q4 g5 (Ne.symm n6),r3,g7.mono K2.le,q1.kp g1 K2,q2.kp g2 K2,q3.kp g4 K2,q4.kp g5 K2,by simp[n1,n2,n3,n4,n5,n6]⟩
 ·refine getA lj (by kernel_rfl) _ _ _ λt'=> ?_
  refine setA lj ws ks q (.tot p (q.set jn y)) _ _ g5 g7 h9 q4 (λf2 h2 h3 m' K2 hs l3 r3=> ?_) (λf2 h3 t3 le S3 R3=>hQ _ f2 h3 t3 mm cm .next le S3 R3) t'
  have kk2:∀{b:Addr}{o:Obj},Own X env n₀ f1 b->hp1.get? b=some o->b≠lj->h3.get? b=some o:=λow e ne=>(hs.2 _ ne).trans (K2.keep _ _ e ow.1.ng)
  exact⟨ad,d,es,kk,li,lj,vs,_,kn,m',rfl,kk2 q1 g1 n3,kk2 q2 g2 n5,g3,kk2 q3 g4 n6,l3,g6.mono K2.le,r3,q1.kp g1 K2,q2.kp g2 K2,q3.kp g4 K2,q4.kp g5 K2,by simp[n1,n2,n3,n4,n5,n6]⟩
end
structure MC(K:Kx)(MK:Mk2)(sc:Scope)(X:Cx)(A:Around)(n:Nat)(env:Env)(n₀:Bs):Prop where
 EK:KxOK X n K
 HM:MkOK X n MK
 hA:Room X A n
 C:Cz X env n₀
 hs:sc=env.scope
noncomputable def S2OK(K:Kx)(MK:Mk2)(sc:Scope)(t:Stmt)(st:Sx)(p:Fl × Sx):Prop:=∀(X:Cx)(A:Around)(n:Nat)(env:Env)(n₀:Bs)(m cm:Str->Option Value)(f:FH)(s:Shared),MC K MK sc X A n env n₀->Rel X env n₀ f s.heap st.vars st.ow m cm->St X f st.σ s.heap->TrS X A env n₀ (exec t env) f st s p.1 p.2
noncomputable abbrev S2R(K:Kx)(MK:Mk2)(sc:Scope)(t:Stmt)(st:Sx):=Option {p:Fl × Sx // S2OK K MK sc t st p}
noncomputable def mk1P(K:Kx)(MK:Mk2)(W:List Str)(sc:Scope)(k:Nat)(x:Str)(p:Pos)(c:Str)(cp:Pos)(args:List Expr)(cpos pos:Pos)(st:Sx):S2R K MK sc (.Assign [.Name x p] (.Call (.Name c cp) args [] cpos) pos) st:=onT (memS x W) λx0=>match st with
 |⟨vars,none,σ⟩=>onT (allPlain args) λh4=>onR (ev K k sc vars false (.Name c cp) σ) λg σ0 h5=>match g,h5 with
  | .con (.ref C),h5=>onPr (evs (ev K k sc vars false) args σ0) λxs σ₁ h6=>onPr (MK C xs σ₁) λo σ₂ h7=>onS (asgN sc x .any ⟨vars,none,σ₂⟩) λst₁ h8=>some ⟨(.next,⟨st₁.vars,some (x,o),σ₂⟩),λX A n env n₀ m cm f s H R S=>by
   have hs:=H.hs;subst hs
   exact m0y H.EK H.hA H.C R S h5 h4 h6 (H.HM _ _ _ _ _ h7) h8⟩
  |_,_=>none
 |_=>none
noncomputable def at1P(K:Kx)(MK:Mk2)(sc:Scope)(k:Nat)(es:List Expr)(kk:Nat)(p:Pos)(e:Expr)(pos:Pos)(x:Str)(D:Addr)(fs:List (Str × V))(vars:Vars)(σ:Gs):S2R K MK sc (.Assign [.Tuple es kk p] e pos) ⟨vars,some (x,.ins D fs),σ⟩:=onT K.lp λhlp=>onT (notComp e) λh1=>match h2:pureOf (swappedStores [.Tuple es kk p] e (dum sc)) with
 |some none=>onR (ev K k sc vars false e σ) λy σ' h3=>onP (unpVP y) λys h4=>onP (putP K.toEc x D es ys fs) λfs' h5=>some ⟨(.next,⟨vars,some (x,.ins D fs'),σ'⟩),λX A n env n₀ m cm f s H R S=>by
  have hs:=H.hs;subst hs
  exact t0l H.EK.toEcOK (H.hA.1 (H.EK.lp hlp)) H.C R h1 h2 ((b0q H.EK H.hA k env n₀ vars _ m cm H.C).1 e σ y σ' f s h3 R S) h4 h5⟩
 |_=>none
theorem c1f{sc:Scope}{ts:List Expr}{kk:Nat}{p:Pos}{x:Str}{xs:List Str}{ys:List V}{vars:Vars}{σ:Gs}{st0 st₁:Sx}(hn:namesE ts=some (x::xs))(h11:asgN sc x .any ⟨[],none,σ⟩=some st0)(h12:asgs sc xs ys ⟨[],none,σ⟩=some st₁)(w:Value):asg sc (.Tuple ts kk p) (.tup (.con w::ys)) ⟨vars,none,σ⟩=some ⟨st₁.vars++(x,.con w)::vars,none,σ⟩:=by
 have c:=s0l (V0:=(x,.con w)::vars) h12
 obtain⟨g1,g2,g3,_⟩:=c0t h11
 refine m0l rfl hn ?_
 show(match asgN sc x (.con w) ⟨vars,none,σ⟩ with|some st₁=>asgs sc xs ys st₁|none=>none)=_
 rw[p0a g1 g2 g3]
 exact c
noncomputable def tu1P(K:Kx)(MK:Mk2)(W:List Str)(sc:Scope)(k:Nat)(ts:List Expr)(kk:Nat)(p:Pos)(e:Expr)(pos:Pos)(vars:Vars)(σ:Gs):S2R K MK sc (.Assign [.Tuple ts kk p] e pos) ⟨vars,none,σ⟩:=onT K.lp λhlp=>match e with
 | .Tuple (.Call (.Name c cp) args [] cpos::es) k2 p2=>match hn:namesE ts with
  |some (x::xs)=>onT (memS x W) λx0=>onT (allPlain args) λh3=>onR (ev K k sc vars false (.Name c cp) σ) λg σ0 h4=>match g,h4 with
   | .con (.ref C),h4=>onPr (evs (ev K k sc vars false) args σ0) λzs σ₁ h5=>onPr (MK C zs σ₁) λo σ₂ h6=>match h7:pureOf (swappedStores [.Tuple ts kk p] (.Tuple (.Call (.Name c cp) args [] cpos::es) k2 p2) (dum sc)) with
    |some none=>onT (allPlain es) λh8=>onT (Nat.ble es.length 900) λh9=>onPr (evs (ev K k sc vars false) es σ₂) λys σ3 h10=>onS (asgN sc x .any ⟨[],none,σ3⟩) λst0 h11=>onS (asgs sc xs ys ⟨[],none,σ3⟩) λst₁ h12=>onE (look x st₁.vars) (λx0 x0=>none) λh13=>some ⟨(.next,⟨st₁.vars++(x,.any)::vars,some (x,o),σ3⟩),λX A n env n₀ m cm f s H R S=>by
     have hs:=H.hs;subst hs
     exact m0o H.EK hlp H.hA H.C R S h4 h3 h5 (H.HM _ _ _ _ _ h6) h7 h8 h9 h10 (λw=>c1f hn h11 h12 w) h13⟩
    |_=>none
   |_,_=>none
  |_=>none
 |_=>none
noncomputable def to1P(K:Kx)(MK:Mk2)(sc:Scope)(k:Nat)(x:Str)(xp:Pos)(a:Str)(ap:Pos)(i:Expr)(ip:Pos)(e:Expr)(pos:Pos)(z:Str)(p q:List V)(vars:Vars)(σ:Gs):S2R K MK sc (.Assign [.Subscript (.Attribute (.Name x xp) a ap) i ip] e pos) ⟨vars,some (z,.tot p q),σ⟩:=onT (seq x z) λh1=>onT (okName x) λh2=>onT (notComp e) λh3=>onT (notSlice i) λx0=>onR (ev K k sc vars false e σ) λy σ₁ h5=>onR (ev K k sc vars false i σ₁) λjv σ₂ h6=>match h7:jv.toInt? with
 |some (.ofNat jn)=>onT (Nat.beq p.length 4) λh8=>onT (Nat.beq q.length 4) λh9=>onS (lookA 312 K.absent) λlabs h10=>onT (memS a labs) λh13=>onT (Nat.ble (jn+1) 4) λhj=>onF (seq a "stretch") (λha=>some ⟨(.next,⟨vars,some (z,.tot (p.set jn y) q),σ₂⟩),λX A n env n₀ m cm f s H R S=>by
   have hs:=H.hs;subst hs
   cases(a0h _ _).mp h1
   exact j0i H.EK H.hA H.C R S h2 h3 h5 h6 h7 (Nat.eq_of_beq_eq_true h8) (Nat.eq_of_beq_eq_true h9) h10 h13 (Nat.le_of_ble_eq_true hj) (.inl ⟨(a0h _ _).mp ha,rfl⟩)⟩)
  λx0=>onT (seq a "shrink") λha=>some ⟨(.next,⟨vars,some (z,.tot p (q.set jn y)),σ₂⟩),λX A n env n₀ m cm f s H R S=>by
   have hs:=H.hs;subst hs
   cases(a0h _ _).mp h1
   exact j0i H.EK H.hA H.C R S h2 h3 h5 h6 h7 (Nat.eq_of_beq_eq_true h8) (Nat.eq_of_beq_eq_true h9) h10 h13 (Nat.le_of_ble_eq_true hj) (.inr ⟨(a0h _ _).mp ha,rfl⟩)⟩
 |_=>none
noncomputable def evMP(K:Kx)(MK:Mk2)(W:List Str)(sc:Scope)(n:Nat)(t e:Expr)(pos:Pos)(st:Sx):S2R K MK sc (.Assign [t] e pos) st:=match t with
 | .Name x p=>match e with
  | .Call (.Name c cp) args [] cpos=>mk1P K MK W sc n x p c cp args cpos pos st
  |_=>none
 | .Tuple es kk p=>match st with
  |⟨vars,some (x,.ins D fs),σ⟩=>at1P K MK sc n es kk p e pos x D fs vars σ
  |⟨vars,none,σ⟩=>tu1P K MK W sc n es kk p e pos vars σ
  |_=>none
 | .Subscript (.Attribute (.Name x xp) a ap) i ip=>match st with
  |⟨vars,some (z,.tot p q),σ⟩=>to1P K MK sc n x xp a ap i ip e pos z p q vars σ
  |_=>none
 |_=>none
noncomputable def ev2P(K:Kx)(MK:Mk2)(W:List Str)(sc:Scope)(n:Nat)(t:Stmt)(st:Sx):S2R K MK sc t st:=match(match t with
  | .Assign [t] e pos=>evMP K MK W sc n t e pos st
  |_=>none:S2R K MK sc t st) with
 |some z=>some z
 |none=>onPr (evS K [] sc n t st) λfl st' h=>some ⟨(fl,st'),λX A n' env n₀ m cm f s H R S=>by
  have hs:=H.hs;subst hs
  exact c0m H.EK H.hA n env n₀ H.C _ _ _ _ _ _ _ _ h R S⟩
noncomputable def ev2(K:Kx)(MK:Mk2)(W:List Str)(sc:Scope)(n:Nat):RcS:=λs st=>valO (ev2P K MK W sc n s st)
theorem w0m{X:Cx}{A:Around}{K:Kx}{n:Nat}{env:Env}{n₀:Bs}{MK:Mk2}{W:List Str}(EK:KxOK X n K)(HM:MkOK X n MK)(hA:Room X A n)(C:Cz X env n₀)(k:Nat):SndS X A env n₀ (ev2 K MK W env.scope k):=λe st fl st' f s m cm h R S=>
 a0t (o:=ev2P K MK W env.scope k e st) (z:=(fl,st')) h X A n env n₀ m cm f s ⟨EK,HM,hA,C,rfl⟩ R S
section
variable {X:Cx} {A:Around} {K:Kx} {n:Nat} {env:Env} {n₀:Bs} {vars:Vars} {m cm:Str->Option Value} {f:FH} {σ σ':Gs} {s:Shared} {h h':Heap} {a:Addr} {xs dxs:List V} {D:FnD} {o:Ow}
theorem z0i{C g:Addr}(hM:Mk X.K C g)(hF:FnIs X.K g D)(hs:ScOk D)(hd:∀f,BaseIn X f->VRs X f D.dv dxs){ns:List Str}(hn:D.names=("self":Str)::ns)
  (h1:Nat.ble (xs.length+1) D.names.length=true)(h2:Nat.ble dxs.length D.names.length=true)(h3:Nat.ble D.names.length (xs.length+1+dxs.length)=true)
  (H:∀(A:Around)(env:Env)(B:Bs)(f:FH)(s:Shared)(m cm:Str->Option Value)(self:Value),Room X A n->env.scope=D.sc->Cz X env B->B.pins=[]->B.me=some self->Rel X env B f s.heap (varsOf D (.any::xs) dxs) (some ("self",.ins C [])) m cm->St X f σ s.heap->
   ∀(Q:Flow->Shared->Prop)(E:Value->Shared->Prop),(∀f' h' t',Kp X B.f₀ B.h₀ f' h'->St X f' σ' h'->NewOR X f' B.h₀ h' self o->Q .next {s with heap:=h',toks:=t'})->wpAny X.M A (execs D.body env) Q E s):MkV X (n+1) (.ref C) xs σ o σ':=by
 refine⟨e0u hM.keep,λA f s vs hA S hv Q E hQ=>wpAny_call ?_⟩
 obtain⟨h,gs,dr,t,os⟩:=s
 dsimp only at S hQ ⊢
 refine make_core (makes_of S.kin hM.makes) (looks_findIn S.kin hM.init) (λself=>bind_fn S.kin self hM.fn) (.inl rfl) ?_
 have S1:St X f σ (h.push emptyDict):=S.push
 have S2:St X f σ ((h.push emptyDict).push (instObj C h.objs.size)):=S1.push
 have K2:Kp X f h f ((h.push emptyDict).push (instObj C h.objs.size)):=(Kp.push _).trans (Kp.push _)
 have hsz:(h.push emptyDict).objs.size=h.objs.size+1:=Heap.size_push ..
 have gx:((h.push emptyDict).push (instObj C h.objs.size)).get? (h.objs.size+1)=some (instObj C h.objs.size):=by rw[←hsz];exact Heap.get?_push_size _ rfl
 have gd:((h.push emptyDict).push (instObj C h.objs.size)).get? h.objs.size=some emptyDict:=Heap.get?_push_of_some _ (Heap.get?_push_size _ rfl)
 have fr:∀c,h.objs.size≤c->Fresh X ⟨f,h,[],some (.ref (h.objs.size+1))⟩ f c:=λc hc=>by
  have d:h.get? c=none:=Heap.get?_none_of_le hc
  refine⟨d,λhg=>Nat.lt_irrefl _ (Nat.lt_of_lt_of_le (S.inv.lt c hg) hc),?_,λp hp=>nomatch hp⟩
  exact b0i (λo q=>S.isIn _ _ q) (d)
 have hdv:=hd f S.base
 have l1:=hv.length
 have l2:=hdv.length
 have hdep:(A.under (.builtin "type.__call__" ⟨.ref C::vs,[]⟩)).depth=A.depth+1:=rfl
 refine c0d (s:=⟨(h.push emptyDict).push (instObj C h.objs.size),gs,dr,t,os⟩) (B:=⟨f,h,[],some (.ref (h.objs.size+1))⟩) hF hs S2 K2 rfl (statics S) (vs:=.ref (h.objs.size+1)::vs) (xs:=.any::xs) (.cons (.any _) hv) hdv
  (by rw[List.length_cons,l1];exact Nat.le_of_ble_eq_true h1) (by rw[l2];exact Nat.le_of_ble_eq_true h2) (by rw[List.length_cons,l1,l2];exact Nat.le_of_ble_eq_true h3) (by rw[hdep];have:=hA.2.1;show A.depth+1<1000;lia)
  (ow:=some ("self",.ins C [])) (λenv h' m cm hk hne hval x o e=> ?_) (λv e=> ?_) λenv h' t' m cm hsc C' R S'=> ?_
 ·cases e
  refine⟨.ref (h.objs.size+1),hval _ _ (by rw[hn];exact .head _),h.objs.size+1,h.objs.size,[],0,rfl,hk _ _ gx,hk _ _ gd,.nil,⟨fr _ (Nat.le_succ _),hne _ ⟨_,gx⟩⟩,⟨fr _ (Nat.le_refl _),hne _ ⟨_,gd⟩⟩,by simp⟩
 ·cases e
  rw[hn];exact .head _
 ·have hr:Room X ((A.under (.builtin "type.__call__" ⟨.ref C::vs,[]⟩)).deeper env) n:=by
   obtain⟨a,b,c⟩:=hA
   refine⟨a,?_,?_⟩
   ·show A.depth+1+1+2 * n<900;lia
   ·show A.units+_+3+16 * n+200<cLine
    have:(Code.builtin "type.__call__" ⟨.ref C::vs,[]⟩).cUnits≤13:=Nat.le_of_ble_eq_true (by kernel_rfl)
    lia
  refine H _ env _ f ⟨h',gs,dr,t',os⟩ m cm (.ref (h.objs.size+1)) hr hsc C' rfl rfl R S' _ _ λf' h'' t'' K' S'' N=>⟨rfl,hQ _ f' h'' t'' K' S'' N⟩
theorem e0l(EK:KxOK X n K)(hA:Room X A n)(C:Cz X env n₀){k:Nat}{x a:Str}{D:Addr}{fs:List (Str × V)}{es:List Expr}{p q lp pos:Pos}{xs:List V}(R:Rel X env n₀ f s.heap vars (some (x,.ins D fs)) m cm)(S:St X f σ s.heap)(ho:okName x=true)
  (hk:setOk K.toEc D a=true)(hl:Nat.ble fs.length 900=true)(hp:allPlain es=true)(hlen:Nat.ble es.length 900=true)(he:evs (ev K k env.scope vars false) es σ=some (xs,σ)){Q:Flow->Shared->Prop}{E:Value->Shared->Prop}
  (hQ:∀L vs f' h' t',f.le f'->VRs X f' vs xs->(∀p∈n₀.pins,p.1≠L)->St X f' σ h'->Rel X env {n₀ with pins:=(L,listOf (List.toArray vs) 0)::n₀.pins} f' h' vars (some (x,.ins D (putF a (.con (.ref L)) fs))) m cm->Q .next {s with heap:=h',toks:=t'}):
  wpAny X.M A (exec (.Assign [.Attribute (.Name x p) a q] (.List es lp) pos) env) Q E s:=by
 obtain⟨o1,o2⟩:=a0v ho
 have HE:=(b0q EK hA k env n₀ vars (some (x,.ins D fs)) m cm C).1
 refine plainObj_wpAny_Assign_Attribute (List_ ?_) (a0r rfl)
 rw[a0k hp]
 refine j0p C HE es σ xs σ f s he R S _ _ λvs f1 h1 t1 K1 S1 r1=> ?_
 refine wpAny_newList ?_ (by have:=r1.length;have:=o0n he;have:=Nat.le_of_ble_eq_true hlen;rw[line24];lia)
 have R1:=R.kp' K1
 obtain⟨R2,S2⟩:=R1.pinNew C S1 (o:={cls:=.type "list",data:=.seq vs.toArray}) rfl
 obtain⟨v,hv,O⟩:=R2.own _ _ rfl
 refine wpAny_Name (b0o (s:={s with heap:=h1.push {cls:=.type "list",data:=.seq vs.toArray},toks:=t1}) (C.pins _) R2.fm hv o2 ?_) o1
 refine d0f (s:={s with heap:=h1.push {cls:=.type "list",data:=.seq vs.toArray},toks:=t1}) EK.toEcOK (C.pins _) R2 S2 hk hl (.con _) hv λh3 t3 S3 R3=> ?_
 exact hQ h1.objs.size vs f1 h3 t3 K1.le r1 (λp hp q=>by have:=(R1.pin p hp).1;rw[q,dead] at this;cases this) S3 R3
noncomputable def noOv:Ov:=λx0 x0 x0=>none
theorem d0k:OvOK X n noOv:=λx0 x0 x0 x0 x0 e=>by cases e
noncomputable def z4:List V:=[.int 0,.int 0,.int 0,.int 0]
theorem body274:d274.body=[.Assign [(Expr.Name ("self") ⟨107,8,107,12⟩).Attribute ("natural") ⟨107,8,107,20⟩] (Expr.Constant (Const.int 0) 0 ⟨107,23,107,24⟩) ⟨107,8,107,24⟩,
 .Assign [(Expr.Name ("self") ⟨108,8,108,12⟩).Attribute ("stretch") ⟨108,8,108,20⟩] (Expr.List [Expr.Constant (Const.int 0) 0 ⟨108,24,108,25⟩,Expr.Constant (Const.int 0) 0 ⟨108,27,108,28⟩,Expr.Constant (Const.int 0) 0 ⟨108,30,108,31⟩,Expr.Constant (Const.int 0) 0 ⟨108,33,108,34⟩] ⟨108,23,108,35⟩) ⟨108,8,108,35⟩,
 .Assign [(Expr.Name ("self") ⟨109,8,109,12⟩).Attribute ("shrink") ⟨109,8,109,19⟩] (Expr.List [Expr.Constant (Const.int 0) 0 ⟨109,23,109,24⟩,Expr.Constant (Const.int 0) 0 ⟨109,26,109,27⟩,Expr.Constant (Const.int 0) 0 ⟨109,29,109,30⟩,Expr.Constant (Const.int 0) 0 ⟨109,32,109,33⟩] ⟨109,22,109,34⟩) ⟨109,8,109,34⟩]:=by kernel_rfl
noncomputable abbrev K0:Kx:=lvl ecT fns mks noOv 80 0
theorem f274:findE 274 fns=some e274:=by kernel_rfl
theorem m312:lookA 312 mks=some 274:=by kernel_rfl
theorem names274:d274.names=("self":Str)::[]:=by kernel_rfl
theorem tot1(σ:Gs):evS K0 [] d274.sc 80 (.Assign [(Expr.Name ("self") ⟨107,8,107,12⟩).Attribute ("natural") ⟨107,8,107,20⟩] (Expr.Constant (Const.int 0) 0 ⟨107,23,107,24⟩) ⟨107,8,107,24⟩) ⟨varsOf d274 [.any] [],some ("self",.ins 312 []),σ⟩=some (.next,⟨varsOf d274 [.any] [],some ("self",.ins 312 [("natural",.int 0)]),σ⟩):=by kernel_rfl
theorem tot2(σ:Gs):evs (ev K0 80 d274.sc (varsOf d274 [.any] []) false) [Expr.Constant (Const.int 0) 0 ⟨108,24,108,25⟩,Expr.Constant (Const.int 0) 0 ⟨108,27,108,28⟩,Expr.Constant (Const.int 0) 0 ⟨108,30,108,31⟩,Expr.Constant (Const.int 0) 0 ⟨108,33,108,34⟩] σ=some (z4,σ):=by kernel_rfl
theorem tot3(σ:Gs):evs (ev K0 80 d274.sc (varsOf d274 [.any] []) false) [Expr.Constant (Const.int 0) 0 ⟨109,23,109,24⟩,Expr.Constant (Const.int 0) 0 ⟨109,26,109,27⟩,Expr.Constant (Const.int 0) 0 ⟨109,29,109,30⟩,Expr.Constant (Const.int 0) 0 ⟨109,32,109,33⟩] σ=some (z4,σ):=by kernel_rfl
theorem sets312:setOk K0.toEc 312 "stretch"=true∧setOk K0.toEc 312 "shrink"=true:=⟨by kernel_rfl,by kernel_rfl⟩
theorem putT(L1:Addr):putF "stretch" (.con (.ref L1)) ([("natural",.int 0)]:List (Str × V))=([("natural",.int 0),("stretch",.con (.ref L1))]:List (Str × V)):=by kernel_rfl
theorem putT2(L1 L2:Addr):putF "shrink" (.con (.ref L2)) ([("natural",.int 0),("stretch",.con (.ref L1))]:List (Str × V))=([("natural",.int 0),("stretch",.con (.ref L1)),("shrink",.con (.ref L2))]:List (Str × V)):=by kernel_rfl
theorem es_of{f:FH}{es:List DictEntry}{L1 L2:Addr}(h:VRd X f es [("natural",.int 0),("stretch",.con (.ref L1)),("shrink",.con (.ref L2))]):∃t t1 t2 t3 e1 e2 e3,es=[⟨e1,.str "natural" t1,.int 0 t⟩,⟨e2,.str "stretch" t2,.ref L1⟩,⟨e3,.str "shrink" t3,.ref L2⟩]:=by
 cases h with
 | @cons x _ t1 _ _ _ k1 v1 h=>
 cases h with
 | @cons y _ t2 _ _ _ k2 v2 h=>
 cases h with
 | @cons z _ t3 _ _ _ k3 v3 h=>
 cases h
 obtain⟨e1,kx,vx⟩:=x
 obtain⟨e2,ky,vy⟩:=y
 obtain⟨e3,kz,vz⟩:=z
 dsimp only at k1 k2 k3 v1 v2 v3
 subst k1 k2 k3
 cases v1 using VR.eInt with
 |int t=>
 cases v2 using VR.eCon
 cases v3 using VR.eCon
 exact⟨t,t1,t2,t3,e1,e2,e3,rfl⟩
theorem t0o(hK:IsX X):MkV X (n+1) (.ref 312) [] σ (.tot z4 z4) σ:=by
 obtain⟨hm,_⟩:=a0q f274
 obtain⟨t1,t2,t3⟩:=(a0y hK).fn _ hm
 have EK:KxOK X n K0:=b0z (m:=n) (a0y hK) 0 d0k
 refine z0i (D:=d274) (dxs:=[]) ((a0y hK).made _ (b0h m312)) t1 t2 t3 names274 (by kernel_rfl) (by kernel_rfl) (by kernel_rfl) λA env B f s m cm self hA hsc C hpins hself R S Q E hQ=> ?_
 rw[body274]
 have HS:SndS X A env B (evS K0 [] d274.sc 80):=by rw[←hsc];exact c0m EK hA 80 env B C
 refine wpAny_execs_cons (HS _ _ _ _ f s m cm (tot1 σ) R S _ _ λfl' f1 h1 tk1 m1 cm1 r1 le1 S1 R1=> ?_)
 cases r1
 refine wpAny_execs_cons (e0l (s:={s with heap:=h1,toks:=tk1}) (k:=80) (xs:=z4) EK hA C R1 S1 (by kernel_rfl) sets312.1 rfl rfl rfl (by rw[hsc];exact tot2 σ) λL1 vs1 f2 h2 tk2 le2 v1 d1 S2 R2=> ?_)
 rw[putT] at R2
 refine wpAny_execs_cons (e0l (s:={s with heap:=h2,toks:=tk2}) (k:=80) (xs:=z4) EK hA (C.pins _) R2 S2 (by kernel_rfl) sets312.2 rfl rfl rfl (by rw[hsc];exact tot3 σ) λL2 vs2 f3 h3 tk3 le3 v2 d2 S3 R3=> ?_)
 rw[putT2] at R3
 refine wpAny_execs_nil ?_
 obtain⟨v,hv,a,d,es,k,rfl,g1,g2,g3,o1,o2,ne⟩:=R3.own _ _ rfl
 have:=R3.me _ hself
 rw[hv] at this
 cases this
 have p1:=R3.pin _ (.tail _ (.head _))
 have p2:=R3.pin _ (.head _)
 have n12:L1≠L2:=d2 _ (.head _)
 have a1:L1≠a:=o1.1.pin _ (.tail _ (.head _))
 have a2:L2≠a:=o1.1.pin _ (.head _)
 have b1:L1≠d:=o2.1.pin _ (.tail _ (.head _))
 have b2:L2≠d:=o2.1.pin _ (.head _)
 refine hQ f3 h3 tk3 R3.kp S3 ⟨a,d,es,k,L1,L2,vs1,vs2,0,0,rfl,g1,g2,es_of g3,p1.1,p2.1,?_,v2,⟨o1.1.at0,o1.1.ng,o1.1.off⟩,⟨o2.1.at0,o2.1.ng,o2.1.off⟩,⟨p1.2.2.1,p1.2.1,p1.2.2.2⟩,⟨p2.2.2.1,p2.2.1,p2.2.2.2⟩,?_⟩
 ·exact v1.mono le3
 ·simp[ne,n12,a1.symm,a2.symm,b1.symm,b2.symm]
end
noncomputable def WL(vs vs':Vars):Prop:=∀p∈vs',∃y',look p.1 vs=some y'∧Le y' p.2
theorem WL.nil{vs:Vars}:WL vs []:=nofun
theorem WL.cons{vs vs':Vars}{x:Str}{y z:V}(h:look x vs=some y)(l:Le y z)(t:WL vs vs'):WL vs ((x,z)::vs'):=λp hp=>(List.mem_cons.mp hp).elim (λe=>e▸⟨y,h,l⟩) (t p)
theorem WL.of{vs vs':Vars}(h:vs'.map (λp=>look p.1 vs)=vs'.map λp=>some p.2):WL vs vs':=λp hp=>⟨p.2,List.map_inj_left.mp h p hp,.refl _⟩
theorem WL.same{vs vs':Vars}{x:Str}{z:V}(h:look x vs=some z)(t:WL vs vs'):WL vs ((x,z)::vs'):=.cons h (.refl _) t
section
variable {X:Cx} {A:Around} {env:Env} {n₀:Bs} {vars vars':Vars} {ow:Option (Str × Ow)} {m cm:Str->Option Value} {f:FH} {h:Heap} {st st':Sx} {s:Shared} {n k:Nat}
theorem Rel.weakL(R:Rel X env n₀ f h vars ow m cm)(H:WL vars vars'):Rel X env n₀ f h vars' ow m cm:=R.weak λx y h=>(H (x,y) (c0u h)).elim λy' q=>⟨y',q.1,q.2 X f⟩
theorem TrS.res{t:Sem Flow}{y y':V}(H:TrS X A env n₀ t f st s (.ret y) st')(c:∀f v,VR X f v y->VR X f v y'):TrS X A env n₀ t f st s (.ret y') st':=λQ E hQ=>H Q E λfl' f' h' t' m' cm' r le S R=>hQ fl' f' h' t' m' cm' (by cases r with|ret r=>exact .ret (c _ _ r)) le S R
theorem TrS.ofSt{t:Sem Flow}{fl:Fl}{st₂:Sx}(H:TrS X A env n₀ t f st₂ s fl st'):TrS X A env n₀ t f st s fl st':=H
theorem e0m{v:Value}{w:Wd}{b:Nat}(h:VR X f v (.str w))(hb:wlen w≤b):VR X f v (.str [.h (wden w) b]):=toHole h (a0e _ _).symm ⟨by
 cases h using VR.eStr with
 |str _ ho=>exact Nat.le_trans (a0s ho) hb,trivial⟩
theorem d0o{v:Value}{w:Wd}(h:VR X f v (.str w)):wok w:=by cases h using VR.eStr with|str _ ho=>exact ho
theorem d0i(hK:IsX X){a:Addr}{d:FnE}(hf:findE a fns=some d){xs:List V}{σ:Gs}{fl:Fl}{st':Sx}(h1:Nat.ble xs.length d.D.names.length=true)(h2:Nat.ble d.dxs.length d.D.names.length=true)(h3:Nat.ble d.D.names.length (xs.length+d.dxs.length)=true)
  (H:∀(A:Around)(env:Env)(B:Bs)(f:FH)(s:Shared)(m cm:Str->Option Value),Room X A n->env.scope=d.D.sc->Cz X env B->Rel X env B f s.heap (varsOf d.D xs d.dxs) none m cm->St X f σ s.heap->TrS X A env B (execs d.D.body env) f ⟨varsOf d.D xs d.dxs,none,σ⟩ s fl st'):
  FnV X (n+1) (.ref a) xs σ (retOf fl) st'.σ:=by
 obtain⟨hm,rfl⟩:=a0q hf
 obtain⟨t1,t2,t3⟩:=(a0y hK).fn _ hm
 exact a1l t1 t2 t3 h1 h2 h3 H
end
section
variable {prog:Program} {w:World} {A:Around} {E:Value->Shared->Prop} {s:Shared}
theorem e0t{it t:Addr}{i:Nat}{items}{Q:Value->Shared->Prop}(hh:A.handled=none)
  (hit:IsTupIter s.heap it t i)(ht:IsTup s.heap t items)(hx:items[i]? =none)
  (hE:∀h' e,Heap.ExtBut it s.heap h'->(∃o,h'.get? e=some o∧o.cls= .type "StopIteration")->E (.ref e) {s with heap:=h'}):
  wpAny (model prog w) A (Builtin.SmallTypes.nextOf (.ref it)) Q E s:=by
 obtain⟨o,ho,hc,hd⟩:=id hit
 obtain⟨ol,hol,_,nl,hdl⟩:=ht
 unfold Builtin.SmallTypes.nextOf
 refine wpAny_bind (wpAny_callSpecial?_slot (name:=Str.ofString "__next__") hit.typeIs slot_tupleiter_next
  (wpAny_call_entry slot_tupleiter_next hit.typeIs entry_tupleiter_next ?_ (args_tupleiter_next _)))
 show wpAny _ _ (field (.ref it) 0 >>= _) _ _ s
 refine wpAny_bind (wpAny_field ho hd (x:=.ref t) rfl ?_)
 show wpAny _ _ (if(Value.ref t==Value.none)=true then _ else _) _ _ s
 rw[if_neg (show ¬((Value.ref t==Value.none)=true) from Bool.false_ne_true)]
 show wpAny _ _ (field (.ref it) 1 >>= _) _ _ s
 refine wpAny_bind (wpAny_field ho hd (x:=.int i 0) rfl ?_)
 show wpAny _ _ (seqItems? (.ref t) >>= _) _ _ s
 refine wpAny_bind (wpAny_seqItems hol hdl ?_)
 simp only [Int.toNat_natCast,hx]
 refine wpAny_bind (wpAny_rule (wpAny_bind (wpAny_setField ho hd (by simp) ?_)))
 show wpAny _ _ (newExc (.type "StopIteration") [] >>= _) _ _ _
 refine wpAny_bind ?_
 simp only [newExc,newTuple]
 refine wpAny_bind (wpAny_newObj_type ?_ (by size_fits))
 refine wpAny_bind (m:=firstArgMember _ _) (wpAny_of_eq (a:=Value.none) (by first|rfl|(simp only [firstArgMember];rfl)) ?_)
 refine wpAny_newObj_type ?_ (by size_fits)
 simp only [raiseNew]
 refine wpAny_bind (wpAny_handled ?_)
 first|rw[show A.in1.handled=none from hh]|rw[hh]
 refine wpAny_bind (wpAny_pure (wpAny_throw ?_))
 exact hE _ _ (((Heap.SameBut.update ..).extBut.push _).push _) ⟨_,Heap.get?_push_size _ rfl,rfl⟩
theorem drawsNil(hh:A.handled=none)(it t:Addr)(hne:t≠it):Draws prog w A it [it,t] 0 (λx0 x0=>False) (λi h=>IsTupIter h it t i∧IsTup h t #[]) where
 live:=λx0 x0 st=>let⟨o,ho,_⟩:=st.1;⟨o,ho⟩
 frame:=λx0 h h' st hk=>⟨by obtain⟨o,ho,r⟩:=st.1;exact⟨o,hk it (by simp) o ho,r⟩,by obtain⟨o,ho,r⟩:=st.2;exact⟨o,hk t (by simp) o ho,r⟩⟩
 item:=λi s Q E hi x0 x0=>absurd hi (Nat.not_lt_zero _)
 done:=λs Q E st hE=>e0t hh st.1 st.2 (by simp) hE
open AutoSeq1 (wpAny_loadPart') in
set_option tactic.hygienic true in
theorem g0b(l:Addr)(items:Array Value)(n:Nat):
  Meets (Builtin.«enumerate.__new__» ⟨[.type "enumerate",.ref l],[]⟩) (λx0 R s=>s.heap.get? l=some {cls:=.type "tuple",data:=.seq items n}∧
   R (.ok (.ret (.ref (s.heap.push {cls:=.type "tuple_iterator",data:=.fields #[.ref l,.int 0 0]}).objs.size)))
    {s with heap:=(s.heap.push {cls:=.type "tuple_iterator",data:=.fields #[.ref l,.int 0 0]}).push {cls:=.type "enumerate",data:=.fields #[.none,.bool false,.ref s.heap.objs.size,rawInt 0,.none,.none]}}):=
 .of_wp λprog w A R s h=>by
  obtain⟨hp,g,d,tk,os⟩:=s;obtain⟨hl,h⟩:=h
  have hsub:=sub_enumerate
  have hL:IsTup (Shared.heap ⟨hp,g,d,tk,os⟩) l items:=⟨_,hl,rfl,n,rfl⟩
  wp_walk using wpAny_loadPart' hl
  refine wpAny_stack_any λst=>wpAny_pure ?_
  split
  ·rename_i c _ _ _ _ _
   cases(c==Value.type "enumerate")
   ·wp_walk using wpAny_loadPart' hl,iter_tuple hL
    exact⟨_,rfl,h⟩
   ·wp_walk using wpAny_loadPart' hl,iter_tuple hL
    exact⟨_,rfl,h⟩
  ·wp_walk using wpAny_loadPart' hl,iter_tuple hL
   exact⟨_,rfl,h⟩
theorem h0w{l:Addr}{items:Array Value}{n:Nat}{Q:Value->Shared->Prop}(hl:s.heap.get? l=some {cls:=.type "tuple",data:=.seq items n})
  (h:∀h',IsEnum h' (s.heap.objs.size+1) s.heap.objs.size 0 .none->IsTupIter h' s.heap.objs.size l 0->
   (∀b o,s.heap.get? b=some o->h'.get? b=some o)->Q (.ref (s.heap.objs.size+1)) {s with heap:=h'}):
  wpAny (model prog w) A (call (.type "enumerate") [.ref l]) Q E s:=by
 refine callType_new F.called_enumerate (by decide) (F.typeCall_enumerate_1 _) (F.newCall_enumerate_1 _) (λobj=>F.args_object_init_2 obj _) F.entry_enumerate_new
  (g0b l items n) ⟨hl,?_⟩
 have hz:(s.heap.push {cls:=.type "tuple_iterator",data:=.fields #[.ref l,.int 0 0]}).objs.size=s.heap.objs.size+1:=Heap.size_push ..
 show _∧_
 rw[hz]
 have he:IsEnum ((s.heap.push {cls:=.type "tuple_iterator",data:=.fields #[.ref l,.int 0 0]}).push
   {cls:=.type "enumerate",data:=.fields #[.none,.bool false,.ref s.heap.objs.size,rawInt 0,.none,.none]}) (s.heap.objs.size+1) s.heap.objs.size 0 .none:=by
  have:=Heap.get?_push_size (s.heap.push {cls:=.type "tuple_iterator",data:=.fields #[.ref l,.int 0 0]})
   (o:={cls:=.type "enumerate",data:=.fields #[.none,.bool false,.ref s.heap.objs.size,rawInt 0,.none,.none]}) rfl
  rw[hz] at this;exact this
 refine⟨⟨_,he,rfl⟩,h _ he ⟨_,Heap.get?_push_of_some _ (Heap.get?_push_size _ rfl),rfl,rfl⟩ λb o x=>Heap.get?_push_of_some _ (Heap.get?_push_of_some _ x)⟩
end
section
variable {X:Cx} {A:Around} {K:Kx} {n:Nat} {env:Env} {n₀:Bs} {vars:Vars} {ow:Option (Str × Ow)} {m cm:Str->Option Value} {f f':FH} {σ σ₁:Gs} {s:Shared} {h h':Heap} {st st':Sx} {fl:Fl}
noncomputable def Kept(h h':Heap):Prop:=∀b o,h.get? b=some o->h'.get? b=some o
theorem Kept.kp(k:Kept h h'):Kp X f h f h':=⟨λb o e x0=>k b o e,FH.le.refl f,λx0 x0 e=>.inl e⟩
theorem Kept.toSt(k:Kept h h')(S:St X f σ h):St X f σ h':=⟨S.base,λb o e=>k b o (S.isIn b o e),S.inv.same λb o x0 e=>k b o e,S.off,S.nolim.keeps k⟩
theorem TrS.solo{e:Stmt}(H:TrS X A env n₀ (exec e env) f st s .next st'):TrS X A env n₀ (execs [e] env) f st s .next st':=by
 intro Q E hQ
 refine wpAny_execs_cons (H _ _ λfl' f1 hp1 t1 m1 cm1 r1 K1 S1 R1=> ?_)
 cases r1
 exact wpAny_execs_nil (hQ .next f1 hp1 t1 m1 cm1 .next K1 S1 R1)
theorem k0g{tgt iter:Expr}{body:List Stmt}{pos:Pos}(hset:notSet iter=true)(R:Rel X env n₀ f s.heap st.vars st.ow m cm)(S:St X f st.σ s.heap)
  (HI:∀E1 E2 E3,wpAny X.M A (eval iter env) (λv s1=>wpAny X.M A (pyIter v) (λit s2=>wpAny X.M A (pyNext it) (λr s3=>r=none∧∃h t f',s3={s with heap:=h,toks:=t}∧Kp X f s.heap f' h∧St X f' st.σ h) E3 s2) E2 s1) E1 s):
  TrS X A env n₀ (exec (.For tgt iter body [] pos) env) f st s .next st:=by
 intro Q E hQ
 refine wpAny_For (hs:=λv=>c0q hset) (wpAny_mono (HI E E (notedBy X.M A env λe s'=>cameBackBy X.M A env E e s')) (λv s1 h1=>wpAny_mono h1 (λit s2 h2=> ?_) λx0 x0 x=>x) λx0 x0 x=>x)
 refine codeAny_forLoop_any (λj s'=>s'=s2) (λj s' hs=> ?_) 0 rfl
 subst hs
 refine wpAny_mono h2 (λr s3 h3=> ?_) λx0 x0 x=>x
 obtain⟨rfl,h,t,f',rfl,hk,S'⟩:=h3
 exact wpAny_execs_nil (hQ _ f' h t m cm .next hk.le S' (R.kp' hk))
end
end
section
open PySem
open PySem.W (peek Frag Looks)
section
variable {prog:Program} {w:World} {M:Model} {A:Around} {E:Value->Shared->Prop} {h:Heap} {g:Array GenState} {d:Drawn} {t:Nat} {os:OsState}
variable {nm q:Str} {C N Pa fI:Addr} {bs bmB:List Value} {hdct:Bool} {sn:List Str} {sub:List Value} {ab:Bool} {col:Option Bool} {dd:Option Addr} {k0 k1 k2 k3 k5:Option Value} {B newId initId:String}
theorem n0z{X:String}{b:Bool}(hb:bmB.contains (.type X)=b):(Value.ref C::Value.ref Pa::bmB).contains (.type X)=b:=by
 rw[List.contains_cons,List.contains_cons,hb];rfl
theorem x0l{K:Frag}{s:Shared}{α:Type}{x:Sem α}{a:α}{Q:α->Shared->Prop}(kin:W.Frag.In K s.heap)(e:∀S,peek K S x=some a)(q:Q a s):wpAny M A x Q E s:=(Looks.of_peek (M:=M) kin (e _)).here q
theorem b1l{R:Result->Shared->Prop}(F:ExcBaseFacts B newId initId bmB){rest:List Value}(hC:h.get? C=some (excClassObj nm q C N bs (.ref Pa::bmB) hdct sn sub ab col dd k0 k1 k2 k3 k5 newId))
  (hq:R (.ok (.ret (.ref (h.objs.size+1)))) ⟨(h.push {cls:=.type "tuple",data:=.seq rest.toArray}).push
   {cls:=.ref C,data:=.fields #[.ref h.objs.size,.none,.none,.none,.bool false,.none]},g,d,t,os⟩)(hrest:rest.length≤sizeLine):
  codeAny (model prog w) A (.builtin newId ⟨.ref C::rest,[]⟩) R ⟨h,g,d,t,os⟩:=by
 have hends:=F.ends
 have hcB:=n0z (C:=C) (Pa:=Pa) F.hasB
 have hcA:=n0z (C:=C) (Pa:=Pa) F.noAttr
 have hcN:=n0z (C:=C) (Pa:=Pa) F.noName
 refine codeAny_builtinAt F.entry ?_
 unfold Builtin.«BaseException.__new__»
 refine wpAt_bind ?_
 show wpAt _ _ _ (stack >>= _) _ _ _
 refine wpAt_bind (wpAt_stack λp below=>wpAt_of_wpAny ?_)
 wp_walk
 refine wpAt_of_wpAny ?_
 rw[F.owner]
 repeat (first|with_reducible refine wpAny_madeHere_exc F.canon hC ?_|with_reducible refine wpAny_loadPart_at hC ?_|(with_reducible refine wpAny_isSubtype_exc hC ?_;first|rw[hcB]|rw[hcA]|rw[hcN])|wp_step)
 show R _ _
 rw[Heap.size_push]
 exact hq
theorem a1g{K:Frag}(kin:W.Frag.In K h)(F:ExcBaseFacts B newId initId bmB){mN mA:Str->Option Value}{rest:List Value}{oI:Obj}{c0:Value}{dd':Option Addr}{cd:ClassData}{sl:Array (Option Value)}{Q:Fin->Shared->Prop}
  (hck:∀S,peek K S (checkBuiltinCall newId ⟨.ref C::rest,[]⟩)=some ())(hC:h.get? C=some (excClassObj nm q C N bs (.ref Pa::bmB) hdct sn sub ab col dd k0 k1 k2 k3 k5 newId))(hn:h.Ns N mN)(hni:mN "__init__"=none)
  (hP:h.get? Pa=some {cls:=c0,dict:=dd',data:=.cls cd,slots:=sl})(hnP:h.Ns cd.ns mA)(hi:mA "__init__"=some (.ref fI))(hfI:h.get? fI=some oI)(hfc:oI.cls= .type "function")
  (hq:∀h' e,Heap.MadeExcOf h h' e (.ref C) rest->
   wpAny (model prog w) A (call (.ref fI) (.ref e::rest)) (λr s'=>r= .none∧Q (.done (.ret (.ref e))) s') E ⟨h',g,d,t,os⟩)(hrest:rest.length≤sizeLine):
  wpAny (model prog w) A (Builtin.«type.__call__» ⟨.ref C::rest,[]⟩) Q E ⟨h,g,d,t,os⟩:=by
 repeat (first|with_reducible refine wpAny_loadPart_at hC ?_|with_reducible refine wpAny_madeBy_exc hC ?_|wp_step)
 refine codeAny_call_builtin_code (Code.quiet_builtin _ F.quiet) (x0l kin hck ?_)
 refine b1l F hC ?_ hrest
 show wpAny _ _ _ _ _ _
 have up:∀b o,h.get? b=some o->((h.push {cls:=.type "tuple",data:=.seq rest.toArray}).push {cls:=.ref C,data:=.fields #[.ref h.objs.size,.none,.none,.none,.bool false,.none]}).get? b=some o:=λb o e=>Heap.get?_push_of_some _ (Heap.get?_push_of_some _ e)
 have hC1:=up _ _ hC
 have hP1:=up _ _ hP
 have hn₁:=hn.keeps up
 have hnP1:=hnP.keeps up
 have hfI1:=up _ _ hfI
 have hget:((h.push {cls:=.type "tuple",data:=.seq rest.toArray}).push
   {cls:=.ref C,data:=.fields #[.ref h.objs.size,.none,.none,.none,.bool false,.none]}).get? (h.objs.size+1)=some
   {cls:=.ref C,data:=.fields #[.ref h.objs.size,.none,.none,.none,.bool false,.none]}:=by heap_get
 have hcC:(Value.ref C::Value.ref Pa::bmB).contains (.ref C)=true:=by simp
 unfold isInstance
 repeat (first|with_reducible refine wpAny_loadPart_at hget ?_|(with_reducible refine wpAny_isSubtype_exc hC1 ?_;rw[hcC])|wp_step)
 show wpAny _ _ (typeLookup (.ref C) _) _ _ _
 rw[typeLookup_eq]
 refine wpAny_bind (wpAny_mroOf_exc hC1 ?_)
 rw[lookupAlong_cons]
 refine wpAny_bind (wpAny_classOwn_exc hC1 hn₁ ?_)
 rw[hni]
 show wpAny _ _ (lookupAlong (.ref Pa::bmB) "__init__") _ _ _
 rw[lookupAlong_cons]
 refine wpAny_bind (wpAny_classOwn_cls hP1 hnP1 ?_)
 rw[hi]
 refine wpAny_pure ?_
 refine wpAny_holding (wpAny_bind ?_)
 unfold bindSpecial
 refine wpAny_bind (wpAny_typeOf (T:="function") ⟨_,hfI1,hfc⟩ ?_)
 rw[if_pos (by decide)]
 refine wpAny_pure (wpAny_bind (wpAny_mono (hq _ (h.objs.size+1) ⟨λb o hb=>up b o hb,Heap.get?_none_of_le (Nat.le_succ _),h.objs.size,hget,Heap.get?_none_of_le (Nat.le_refl _),?_⟩) (λr s' hr=> ?_) λx0 x0 x=>x))
 ·exact Heap.get?_push_of_some _ (Heap.get?_push_at rfl rfl)
 ·obtain⟨rfl,hQ⟩:=hr
  wp_walk
  exact hQ
theorem x0i{K:Frag}(kin:W.Frag.In K h)(F:ExcBaseFacts B newId initId bmB){mN mA:Str->Option Value}{rest:List Value}{oI:Obj}{c0:Value}{dd':Option Addr}{cd:ClassData}{sl:Array (Option Value)}{Q:Value->Shared->Prop}
  (hck:∀S,peek K S (checkBuiltinCall newId ⟨.ref C::rest,[]⟩)=some ())(hC:h.get? C=some (excClassObj nm q C N bs (.ref Pa::bmB) hdct sn sub ab col dd k0 k1 k2 k3 k5 newId))(hn:h.Ns N mN)(hni:mN "__init__"=none)
  (hP:h.get? Pa=some {cls:=c0,dict:=dd',data:=.cls cd,slots:=sl})(hnP:h.Ns cd.ns mA)(hi:mA "__init__"=some (.ref fI))(hfI:h.get? fI=some oI)(hfc:oI.cls= .type "function")
  (hq:∀h' e,Heap.MadeExcOf h h' e (.ref C) rest->
   wpAny (model prog w) (A.under (.builtin "type.__call__" ⟨.ref C::rest,[]⟩)) (call (.ref fI) (.ref e::rest)) (λr s'=>r= .none∧Q (.ref e) s') E ⟨h',g,d,t,os⟩)(hrest:rest.length≤sizeLine):
  wpAny (model prog w) A (call (.ref C) rest) Q E ⟨h,g,d,t,os⟩:=by
 have f1:=tc_lookup
 have f2:=tc_bind (.ref C)
 have hT:(⟨h,g,d,t,os⟩:Shared).TypeIs (.ref C) "type":=⟨_,hC,rfl⟩
 refine wpAny_call (codeAny_of_tree ?_)
 show wpAny _ _ (callAny (.ref C) _) _ _ _
 repeat (any_goals (first|assumption|with_reducible refine wpAny_loadPart_at hC ?_|wp_step))
 refine⟨rfl,?_⟩
 refine codeAny_call_builtin_at (Code.quiet_builtin _ (by decide+kernel)) entry_typeCall (wpAny_check_type_call_sub hC (a1g kin F hck hC hn hni hP hnP hi hfI hfc (λh' e hm=> ?_) hrest))
 exact hq h' e hm
end
end
section
open PySem PySem.Spec PySem.Calls PyProof.Rows PySem.W PySem.Builtin PySem.Builtin.ObjectAttr PySem.Builtin.Getset_descriptor
theorem f36:findE 36 fns=some e36:=by kernel_rfl
noncomputable def xS:Stmt:=Stmt.Assign [(Expr.Name ("self") ⟨8,8,8,12⟩).Attribute ("reason") ⟨8,8,8,19⟩] (Expr.Name ("reason") ⟨8,22,8,28⟩) ⟨8,8,8,28⟩
theorem body36:d36.body=[xS]:=by kernel_rfl
theorem s52a(P:Params):findIn (frag P) (.ref 52) "__setattr__"=some (some (.builtin "object.__setattr__")):=by kernel_rfl
theorem s52b(P:Params):hasDictIn (frag P) 52=true:=by kernel_rfl
theorem s52c(P:Params):takerIn (frag P) 52 "reason"=some none:=by kernel_rfl
noncomputable def mroB:List Value:=[.type "ValueError",.type "Exception",.type "BaseException",.type "object"]
theorem s52d(P:Params):(clsIn (frag P) 52).map (·.mro)=some (.ref 52:: .ref 39::mroB):=by kernel_rfl
section
variable {prog:Program} {w:World} {A:Around} {K:Frag} {s:Shared} {x C p:Addr} {R:Result->Shared->Prop}
theorem n0a(self:Value):refuseLoop self "__setattr__" (.ref C:: .ref p::mroB)=pure ():=by
 rw[refuseLoop_ref,refuseLoop_ref];exact PySem.F.store_ValueError.passes self
theorem z0k{ox:Obj}{od:Option Obj}{name:Str}{tk:Tok}{v:Value}{cd:ClassData}(X:K.In s.heap)(I:InstAt s.heap x ox C od)(hc:clsIn K C=some cd)(hmro:cd.mro= .ref C:: .ref p::mroB)(ht:takerIn K C name=some none)
  (h:∀b,wpAny (model prog w) A.in1 (storeInOwnDict (.ref x) (.ref C) (.str name tk) name v b)
   (λfin s'=>match fin with| .done f=>R (.ok f) s'| .again c'=>c'.quiet=true∧codeAny (model prog w) A c' R s') (λe s'=>R (.error e) s') s):
  codeAny (model prog w) A (.call (.builtin "object.__setattr__") ⟨[.ref x,.str name tk,v],[]⟩) R s:=by
 have SF:=PySem.F.store_object
 have has:(cd.mro.contains (.type "object"))=true:=by rw[hmro];rfl
 have sub:Looks (model prog w) s.heap (isInstance (.ref x) (.type "object")) true:=I.type.andThen (looks_mroIn X (by unfold mroIn;rw[hc,Option.bind_some,if_neg (by rw[hmro];exact Bool.false_ne_true),has]))
 refine codeAny_call_builtin SF.slot.plain SF.entry (@check_slot (model prog w) _ _ s "object.__setattr__" "object" "__setattr__" (.ref x) [.str name tk,v] [] _ SF.kind SF.split sub (SF.args (.ref x) (.str name tk) v) ?_)
 obtain⟨attr,ha,hr⟩:=Option.bind_eq_some_iff.mp ht
 have hm:Looks (model prog w) s.heap (mroOf (.ref C)) cd.mro:=(looks_clsIn X hc).andThen .now
 have L3:Looks (model prog w) s.heap (storeTaker? attr) none:=by
  cases attr with
  |none=>cases hr;exact .now
  |some a=>
   obtain⟨b,hb,hb2⟩:=Option.map_eq_some_iff.mp hr
   refine(looks_takesIn X hb).andThen ?_
   cases b
   ·exact .now
   ·cases hb2
 rw[osa_eq,refuse_eq]
 refine wpAny_bind (wpAny_bind (I.type.here (wpAny_bind (hm.here ?_))))
 rw[hmro,n0a]
 refine wpAny_pure (wpAny_bind (I.type.here (wpAny_bind ((looks_findIn X ha).here (wpAny_bind (L3.here ?_))))))
 exact h _
end
theorem f52(P:Params):∃cd,clsIn (frag P) 52=some cd∧cd.mro= .ref 52:: .ref 39::mroB∧cd.hasDict=true:=by
 have h1:=s52d P
 obtain⟨cd,h3,h4⟩:=any_some (s52b P)
 rw[h3] at h1
 exact⟨cd,h3,Option.some.inj h1,h4⟩
theorem find52{K:Frag}{P:Params}(hK:K=frag P):findIn K (.ref 52) "__setattr__"=some (some (.builtin "object.__setattr__"))∧takerIn K 52 "reason"=some none∧∃cd,clsIn K 52=some cd∧cd.mro= .ref 52:: .ref 39::mroB∧cd.hasDict=true:=
 ⟨(congrArg (λz=>findIn z (.ref 52) "__setattr__") hK).trans (s52a P),(congrArg (λz=>takerIn z 52 "reason") hK).trans (s52c P),(f52 P).imp λcd q=>⟨(congrArg (λz=>clsIn z 52) hK).trans q.1,q.2⟩⟩
theorem x0s{X:Cx}(hK:X.K=frag X.w.params){A:Around}{E:Value->Shared->Prop}{s:Shared}{Q:Unit->Shared->Prop}{e:Addr}{fs:Array Value}{v:Value}(kin:X.K.In s.heap)(he:s.heap.get? e=some {cls:=.ref 52,data:=.fields fs})
  (hQ:∀h' t',(∀b o,b≠e->s.heap.get? b=some o->h'.get? b=some o)->(∃dd,h'.get? e=some {cls:=.ref 52,dict:=some dd,data:=.fields fs})->Q () {s with heap:=h',toks:=t'}):wpAny X.M A (setAttr (.ref e) "reason" v) Q E s:=by
 obtain⟨f1,f2,cd,f3,f4,f5⟩:=find52 hK
 have I:InstAt s.heap e {cls:=.ref 52,data:=.fields fs} 52 none:=⟨he,rfl,rfl,trivial⟩
 refine set_plain kin I f1 ?_
 refine z0k (s:={s with toks:=s.toks+1}) kin I f3 f4 f2 λb=> ?_
 refine wpAny_bind (wpAny_pure (wpAny_bind (wpAny_bind (wpAny_loadPart he (wpAny_bind (looks_clsIn (h:=s.heap) kin f3 _ _ _ _ (λx0 x0 e=>e) ?_))))))
 rw[f5]
 show wpAny X.M A.in1 (alloc {cls:=.type "dict",data:=.dict #[]} >>= λd=>update e (λo=>{o with dict:=some d}) >>= λx0=>pure (some d)) _ _ _
 refine wpAny_bind (wpAny_alloc ?_)
 have he1:=Heap.get?_push_of_some {cls:=.type "dict",data:=.dict #[]} he
 have ld1:(s.heap.push {cls:=.type "dict",data:=.dict #[]}).get? s.heap.objs.size=some {cls:=.type "dict",data:=.dict #[]}:=Heap.get?_push_size _ rfl
 have ned:e≠s.heap.objs.size:=Nat.ne_of_lt (Heap.lt_size he)
 refine wpAny_bind (wpAny_update he1 (wpAny_pure ?_))
 generalize hh1:(s.heap.push {cls:=.type "dict",data:=.dict #[]}).update e (λo=>{o with dict:=some s.heap.objs.size})=h1
 have le:h1.get? e=some {cls:=.ref 52,dict:=some s.heap.objs.size,data:=.fields fs}:=by
  rw[←hh1];exact Heap.get?_update_self _ he1 rfl
 have ld:h1.get? s.heap.objs.size=some {cls:=.type "dict",data:=.dict #[]}:=by
  rw[←hh1];exact(Heap.get?_update_other _ _ ned).trans ld1
 have up:∀b o,b≠e->s.heap.get? b=some o->h1.get? b=some o:=λb o ne q=>by
  rw[←hh1];exact(Heap.get?_update_other _ _ (Ne.symm ne)).trans (Heap.get?_push_of_some _ q)
 show wpAny X.M A.in1 (newKeyGuard s.heap.objs.size (Str.ofString "reason") (.str (Str.ofString "reason") s.toks) >>= λx0=>nsSet s.heap.objs.size (Str.ofString "reason") v >>= λx0=>lookBehind s.heap.objs.size (some (.str (Str.ofString "reason") 0)) >>= λx0=>ret .none) _ _ _
 refine wpAny_bind (wpAny_pure (wpAny_bind ?_))
 unfold nsSet
 refine wpAny_bind (wpAny_bind (wpAny_askSetting (wpAny_pure (wpAny_bind (wpAny_mkText (wpAny_bind (wpAny_loadPart ld ?_)))))))
 dsimp only
 rw[aRefKeyMayBeTheName_at]
 rw[if_neg (by simp)]
 refine wpAny_updatePart ld ?_
 generalize hh:h1.update s.heap.objs.size _=h'
 obtain⟨hsh,hh⟩:∃hsh,h1.update s.heap.objs.size (Obj.putName (Str.ofString "reason") hsh (.str (Str.ofString "reason") (s.toks+1)) v)=h':=⟨_,hh⟩
 have g:h'.get? s.heap.objs.size=some (dictOf (putL (Str.ofString "reason") hsh (.str (Str.ofString "reason") (s.toks+1)) v []) (putN (Str.ofString "reason") [] 0)):=by
  rw[←hh]
  exact(Heap.get?_update_self (Obj.putName (Str.ofString "reason") hsh (.str (Str.ofString "reason") (s.toks+1)) v) ld (by rw[show({cls:=.type "dict",data:=.dict #[]}:Obj)=dictOf [] 0 from rfl,putName_dict];rfl)).trans (congrArg some (putName_dict ..))
 refine wpAny_bind (wpAny_lookBehind g (pastItsLine_dict ?_) ?_)
 ·rw[List.size_toArray,line24]
  show 1≤2 ^ 24+1
  decide
 ·refine wpAny_pure (hQ _ _ (λb o ne q=> ?_) ⟨s.heap.objs.size,?_⟩)
  ·rw[←hh]
   have nb:s.heap.objs.size≠b:=λz=>Nat.lt_irrefl _ (z▸Heap.lt_size q)
   exact(Heap.get?_update_other _ _ nb).trans (up b o ne q)
  ·rw[←hh]
   exact(Heap.get?_update_other _ _ (Ne.symm ned)).trans le
end
section
open PySem
section
variable {M:Model} {A:Around} {E:Value->Shared->Prop} {env:Env}
variable {nm q:Str} {C N:Addr} {bs bm:List Value} {hdct:Bool} {sn:List Str} {sub:List Value} {ab:Bool} {col:Option Bool} {dd:Option Addr} {k0 k1 k2 k3 k5:Option Value} {newId:String}
theorem v0q{s:Shared}{x:Sem Value}{Q:Flow->Shared->Prop}(hbase:bm.contains (.type "BaseException")=true)(hh:A.handled=none)
  (h:wpAny M A x (λv s₁=>∃e t d,v= .ref e∧s₁.heap.get? C=some (excClassObj nm q C N bs bm hdct sn sub ab col dd k0 k1 k2 k3 k5 newId)∧
   s₁.heap.get? e=some {cls:=.ref C,dict:=some d,data:=.fields #[.ref t,.none,.none,.none,.bool false,.none]}∧E (.ref e) s₁) E s):
  wpAny M A (raiseStmt env (some x) none) Q E s:=by
 have hcB:(Value.ref C::bm).contains (.type "BaseException")=true:=by rw[List.contains_cons,hbase,Bool.or_true]
 unfold raiseStmt
 refine wpAny_bind (wpAny_mono h (λv s₁ h₁=> ?_) λx0 x0 x=>x)
 obtain⟨e,t,d0,rfl,hC,he,hE⟩:=h₁
 obtain⟨hp,g,d,tk,os⟩:=s₁
 repeat (first|with_reducible refine wpAny_loadPart_at he ?_|with_reducible refine wpAny_loadPart_at hC ?_|(with_reducible refine wpAny_isSubtype_exc hC ?_;rw[hcB])|wp_step)
 exact wpAny_raiseNew_none hh hE
end
end
section
open PySem PySem.Spec PySem.Calls PyProof.Rows PySem.W
theorem vars36(a b:V):varsOf d36 [a,b] e36.dxs=([("self",a),("reason",b)]:Vars):=by kernel_rfl
theorem k36(a b:V):look "self" ([("self",a),("reason",b)]:Vars)=some a∧look "reason" ([("self",a),("reason",b)]:Vars)=some b:=⟨by kernel_rfl,by kernel_rfl⟩
theorem len36:Nat.ble 2 e36.D.names.length=true∧Nat.ble e36.dxs.length e36.D.names.length=true∧Nat.ble e36.D.names.length (2+e36.dxs.length)=true:=⟨by kernel_rfl,by kernel_rfl,by kernel_rfl⟩
section
variable {X:Cx} {A:Around} {n:Nat} {f:FH} {σ:Gs} {s:Shared} {e:Addr} {v:Value} {hs:Heap}
theorem n0o(hK:X.K=frag X.w.params)(hA:Room X A (n+1))(S:St X f σ s.heap)(K:Kp X f hs f s.heap)(hst:∃o,hs.get? cStatics=some o)(he0:hs.get? e=none)(ng:¬X.G e)(fe:f e=none){fs:Array Value}
  (he:s.heap.get? e=some {cls:=.ref 52,data:=.fields fs}){Q:Value->Shared->Prop}{E:Value->Shared->Prop}
  (hQ:∀h' t',Kp X f hs f h'->St X f σ h'->(∃dd,h'.get? e=some {cls:=.ref 52,dict:=some dd,data:=.fields fs})->Q .none {s with heap:=h',toks:=t'}):wpAny X.M A (call (.ref 36) [.ref e,v]) Q E s:=by
 obtain⟨hF,hsc0,hd⟩:=(p0r hK).fn e36 (a0q f36).1
 have ln:=len36
 have hdl:d36.dv.length=e36.dxs.length:=(hd f S.base).length
 refine wpAny_call ?_
 refine c0d (D:=d36) (a:=36) (B:=⟨f,s.heap,[],none⟩) (dxs:=e36.dxs) (xs:=[.con (.ref e),.con v]) hF hsc0 S Kp.refl rfl (statics S) (.cons (.con _) (.cons (.con _) .nil)) (hd f S.base) (Nat.le_of_ble_eq_true ln.1) (by rw[hdl];exact Nat.le_of_ble_eq_true ln.2.1) (by rw[hdl];exact Nat.le_of_ble_eq_true ln.2.2) hA.rec (ow:=none)
  (λenv h m cm x0 x0 x0 x o e=>by cases e) (λv e=>by cases e) λenv h t m cm hsc C R S0=> ?_
 rw[vars36] at R
 rw[body36]
 obtain⟨u1,hv1,hr1⟩:=R.vars _ _ (k36 (.con (.ref e)) (.con v)).1
 obtain⟨u2,hv2,hr2⟩:=R.vars _ _ (k36 (.con (.ref e)) (.con v)).2
 cases hr1 using VR.eCon
 cases hr2 using VR.eCon
 refine wpAny_execs_cons (plainObj_wpAny_Assign_Attribute (ld (s:={s with heap:=h,toks:=t}) C R rfl hv2 ?_) (a0r rfl))
 refine ld (s:={s with heap:=h,toks:=t}) C R rfl hv1 ?_
 have le:h.get? e=some {cls:=.ref 52,data:=.fields fs}:=R.kp.keep _ _ he ng
 refine x0s (s:={s with heap:=h,toks:=t}) hK S0.kin le λh' t' up hd'=>wpAny_execs_nil ?_
 have K0:Kp X f hs f h:=K.trans R.kp
 obtain⟨S',K'⟩:=S0.but K0 hst he0 ng fe (h':=h') up
 exact hQ h' t' K' S' hd'
end
theorem c52(P:Params):∃k0 k1 k2 k3 k5,(frag P).lookup 52=some (excClassObj "BadArgument" "BadArgument" 52 51 [.ref 39] (.ref 39::mroB) true [] [] false none none k0 k1 k2 k3 k5 "ValueError.__new__"):=⟨some (.ref 43),none,some (.str "BadArgument" 224),some (.str "BadArgument" 232),some (.bool true),by kernel_rfl⟩
noncomputable def cd39:ClassData:={name:="PageError",bases:=[.type "ValueError"],mro:=[.ref 39,.type "ValueError",.type "Exception",.type "BaseException",.type "object"],ns:=38,qualname:="PageError",hasDict:=true,slotNames:=[],subclasses:=[.ref 52,.ref 64,.ref 76,.ref 88,.ref 100,.ref 112],abstract:=false,collection:=none,hasDel:=false}
theorem c39(P:Params):∃sl,(frag P).lookup 39=some {cls:=.type "type",dict:=none,data:=.cls cd39,slots:=sl}:=⟨#[some (.ref 22),none,some (.str "PageError" 196),some (.str "PageError" 204),some (.builtin "ValueError.__new__"),some (.bool true)],by kernel_rfl⟩
noncomputable def nsOk(o:Option Obj):Bool:=match o with
 |some o=>(match o.data with| .dict es _=>es.all (λe=>match e.key with| .str _ _=>true|_=>false)|_=>false)
 |none=>false
noncomputable def nsAt(o:Option Obj)(x:Str):Option Value:=match o with
 |some o=>(match o.data with| .dict es _=>nsFind es x|_=>none)
 |none=>none
theorem n51(P:Params):nsOk ((frag P).lookup 51)=true∧nsAt ((frag P).lookup 51) "__init__"=none:=⟨by kernel_rfl,by kernel_rfl⟩
theorem n38(P:Params):nsOk ((frag P).lookup 38)=true∧nsAt ((frag P).lookup 38) "__init__"=some (.ref 36):=⟨by kernel_rfl,by kernel_rfl⟩
theorem l36(P:Params):∃o,(frag P).lookup 36=some o∧o.cls= .type "function":=⟨((frag P).lookup 36).getD ⟨.none,none,.plain,#[]⟩,by kernel_rfl,by kernel_rfl⟩
theorem ck52(P:Params)(S:Setting)(v:Value):peek (frag P) S (checkBuiltinCall "ValueError.__new__" ⟨[.ref 52,v],[]⟩)=some ():=by kernel_rfl
theorem b1m{K:Frag}{h:Heap}(X:K.In h){a:Addr}{x:Str}{r:Option Value}(h1:nsOk (K.lookup a)=true)(h2:nsAt (K.lookup a) x=r):∃m,h.Ns a m∧m x=r:=by
 cases q:K.lookup a with
 |none=>rw[q] at h1;cases h1
 |some o=>
  have ho:=X _ _ q
  rw[q] at h1 h2
  refine⟨h.nsMap a,Heap.Ns.of_isNs ?_,?_⟩
  ·unfold Heap.isNs;rw[ho];exact h1
  ·unfold Heap.nsMap;rw[ho];exact h2
section
variable {X:Cx} {A:Around} {n:Nat} {env:Env} {n₀:Bs} {vars:Vars} {ow:Option (Str × Ow)} {m cm:Str->Option Value} {f:FH} {σ:Gs} {s:Shared}
theorem t0x(hK:X.K=frag X.w.params)(hA:Room X A (n+4))(S:St X f σ s.heap){v:Value}{Q:Value->Shared->Prop}{E:Value->Shared->Prop}
  (hQ:∀e h' t' t d,Kp X f s.heap f h'->St X f σ h'->s.heap.get? e=none->h'.get? e=some {cls:=.ref 52,dict:=some d,data:=.fields #[.ref t,.none,.none,.none,.bool false,.none]}->Q (.ref e) {s with heap:=h',toks:=t'}):
  wpAny X.M A (call (.ref 52) [v]) Q E s:=by
 obtain⟨k0,k1,k2,k3,k5,e52⟩:=c52 X.w.params
 obtain⟨sl,e39⟩:=c39 X.w.params
 obtain⟨oI,e36',hfc⟩:=l36 X.w.params
 rw[←hK] at e52 e39 e36'
 have kin:=S.kin
 obtain⟨mN,hn,hni⟩:=b1m kin (a:=51) (x:="__init__") (r:=none) (by rw[hK];exact(n51 _).1) (by rw[hK];exact(n51 _).2)
 obtain⟨mA,hnP,hi⟩:=b1m kin (a:=38) (x:="__init__") (r:=some (.ref 36)) (by rw[hK];exact(n38 _).1) (by rw[hK];exact(n38 _).2)
 obtain⟨h,g,dr,tk,os⟩:=s
 refine x0i kin PySem.F.excBase_ValueError (λS=>hK▸ck52 _ S v) (kin _ _ e52) hn hni (kin _ _ e39) hnP hi (kin _ _ e36') hfc (λh' e hm=> ?_) (by show 1≤sizeLine;rw[line24];decide)
 obtain⟨keep,new,t,he,tn,_⟩:=hm
 have k:Kept h h':=keep
 have fe:f e=none:=Option.eq_none_iff_forall_ne_some.mpr λo q=>Option.some_ne_none _ ((S.isIn _ _ q).symm.trans new)
 have ng:¬X.G e:=by
  rintro⟨j,hj,rfl⟩
  obtain⟨o,ho⟩:=S.inv.live j hj
  dsimp only at ho;rw[new] at ho;cases ho
 have hA':Room X (A.under (.builtin "type.__call__" ⟨[.ref 52,v],[]⟩)) (n+1):=by
  obtain⟨a,b,c⟩:=hA
  refine⟨a,?_,?_⟩
  ·show A.depth+1+2 * (n+1)<900;lia
  ·show A.units+_+16 * (n+1)+200<cLine
   have:(Code.builtin "type.__call__" ⟨[.ref 52,v],[]⟩).cUnits≤13:=Nat.le_of_ble_eq_true (by kernel_rfl)
   lia
 refine n0o (s:=⟨h',g,dr,tk,os⟩) (hs:=h) hK hA' (k.toSt S) k.kp (statics S) new ng fe he λh2 t2 K2 S2 hd=>⟨rfl,?_⟩
 obtain⟨dd,hd⟩:=hd
 exact hQ e h2 t2 t dd K2 S2 new hd
end
section
variable {X:Cx} {A:Around} {K:Kx} {n:Nat} {env:Env} {n₀:Bs} {vars:Vars} {ow:Option (Str × Ow)} {m cm:Str->Option Value} {f f':FH} {σ σ₁ σ₂ σ3:Gs} {s:Shared} {st st':Sx} {fl:Fl} {h h':Heap}
theorem f0s{T:String}(h:(["enumerate","zip","dict_itemiterator","dict_reverseitemiterator","odict_iterator","itertools.zip_longest","itertools.pairwise"].contains T)=false){elts:List Expr}{x1:Nat}{pos:Pos}{I:Addr}{o:Obj}{vs:Array Value}{v:Value}{Q:Unit->Shared->Prop}{E:Value->Shared->Prop}
  (ho:s.heap.get? I=some o)(hc:o.cls= .type T)(hd:o.data= .fields vs)(hQ:Q () s):wpAny X.M A (letOwnedTupleGo (.Tuple elts x1 pos) (.ref I) v) Q E s:=by
 unfold letOwnedTupleGo
 cases v with
 |ref a=>
  refine wpAny_bind (wpAny_load ho ?_)
  rw[hc,hd]
  show wpAny _ A (if(["enumerate","zip","dict_itemiterator","dict_reverseitemiterator","odict_iterator","itertools.zip_longest","itertools.pairwise"].contains T&&vs[0]? ==some (rawInt a))=true then _ else _) Q E s
  rw[h,Bool.false_and,if_neg (by decide)]
  exact wpAny_pure hQ
 |_=>exact wpAny_pure hQ
theorem go_ok{elts:List Expr}{x1:Nat}{pos:Pos}{I:Addr}{xs:List V}{v:Value}{Q:Unit->Shared->Prop}{E:Value->Shared->Prop}(hit:ItR X f s.heap I xs)(hQ:Q () s):wpAny X.M A (letOwnedTupleGo (.Tuple elts x1 pos) (.ref I) v) Q E s:=by
 cases hit with
 |lst _ a _=>obtain⟨o,ho,hc,hd⟩:=a;exact f0s (by decide) ho hc hd hQ
 |tup _ a _=>obtain⟨o,ho,hc,hd⟩:=a;exact f0s (by decide) ho hc hd hQ
 |rng a=>exact f0s (T:="range_iterator") (by decide) a rfl rfl hQ
 | @str b _ _ _ a=>obtain⟨o,ho,hc,hd⟩:=a;cases b<;>exact f0s (by decide) ho hc hd hQ
 |byt a=>obtain⟨o,ho,hc,hd⟩:=a;exact f0s (by decide) ho hc hd hQ
theorem h0g{elts:List Expr}{x1:Nat}{pos:Pos}:TgtOK (.Tuple elts x1 pos):=λx0 x0 x0 x0 x0 x0 x0 x0 x0 hit hQ=>go_ok hit hQ
theorem n0h(C:Cz X env n₀){x:Str}{l ys:List V}{k j:Nat}(R:Rel X env n₀ f s.heap vars (some (x,.lst l k)) m cm)(S:St X f σ s.heap){bv:Value}(hb:VR X f bv (.lst ys j))(hk:l.length+ys.length≤100000)
  {ov:Value}(hov:valOf env m cm x=some ov){Q:Value->Shared->Prop}{E:Value->Shared->Prop}(hQ:∀h' t',St X f σ h'->Rel X env n₀ f h' vars (some (x,.lst (l++ys) (l.length+ys.length))) m cm->Q .none {s with heap:=h',toks:=t'}):
  wpAny X.M A (call (.builtin "list.extend") [ov,bv]) Q E s:=by
 obtain⟨ov',e1,a,vs,i,rfl,h1,h2,h3,h4⟩:=R.own _ _ rfl
 rw[hov] at e1;cases e1
 cases hb using VR.eLst with
 | @lst b ws i2 fv rv hn=>
 have hl:s.heap.get? b=some (listOf ws.toArray i2):=S.isIn _ _ fv
 have hsz:vs.toArray.size+ws.toArray.size≤sizeLine:=by rw[List.size_toArray,List.size_toArray,h2.length,rv.length,line24];lia
 refine call_meets PySem.F.slot_list_extend ⟨_,h1,rfl⟩ PySem.F.entry_list_extend (PySem.F.args_list_extend_2 _ _) (AutoSeq1.list_extend_list_list_0 a vs.toArray i b ws.toArray i2 (extend_door hsz) (Nat.le_trans (Nat.le_add_right _ _) hsz) (Nat.le_succ_of_le hsz)) ⟨h1,hl,?_⟩
 have hs:Heap.SameBut a s.heap (s.heap.update a (Obj.mapSeq λx=>x++ws.toArray)):=Heap.SameBut.update ..
 have ho:(s.heap.update a (Obj.mapSeq λx=>x++ws.toArray)).get? a=some (listOf (vs++ws).toArray (if(vs.toArray++ws.toArray).size==vs.toArray.size then i else i+1)):=by
  rw[Heap.get?_update_self _ h1 (by rw[mapSeq_app];rfl),mapSeq_app,show vs.toArray++ws.toArray=(vs++ws).toArray by simp]
 obtain⟨R',S'⟩:=R.mut (ow':=some (x,.lst (l++ys) (l.length+ys.length))) C S h4 hs λx' o' e=>by
  cases e
  exact⟨_,hov,a,vs++ws,_,rfl,ho,h2.append rv,by rw[List.length_append];exact Nat.le_refl _,h4⟩
 exact hQ _ _ S' R'
theorem d0l(C:Cz X env n₀){z:Str}{l ys:List V}{k j:Nat}{p apos cpos pos:Pos}{arg:Expr}(R:Rel X env n₀ f s.heap vars (some (z,.lst l k)) m cm)(S:St X f σ s.heap)(hl:Nat.beq apos.endLine cpos.line=true)(hp:plainArg arg=true)(ho:okName z=true)
  (HE:∀s,Rel X env n₀ f s.heap vars (some (z,.lst l k)) m cm->St X f σ s.heap->Tr X A (eval arg env) f σ s (.lst ys j) σ₁)(hk:l.length+ys.length≤100000):
  TrS X A env n₀ (exec (.Expr (.Call (.Attribute (.Name z p) "extend" apos) [arg] [] cpos) pos) env) f st s .next ⟨vars,some (z,.lst (l++ys) (l.length+ys.length)),σ₁⟩:=by
 have hf:interactive env=false:=by unfold interactive;rw[C.kind];rfl
 obtain⟨h1,h2⟩:=a0v ho
 obtain⟨v,hv,O⟩:=R.own _ _ rfl
 intro Q E hQ
 refine wpAny_Expr ?_ hf (a0r rfl)
 refine c0v (args:=[arg]) rfl (by show(match plainArg arg with|true=>allPlain []|false=>false)=true;rw[hp];rfl) hl rfl ?_
 refine wpAny_Name (b0o C R.fm hv h2 ?_) h1
 obtain⟨a,vs,i,rfl,g1,g2,g3,g4⟩:=id O
 refine getMethod_list_of PySem.F.slot_list_extend PySem.F.type_list_extend ⟨_,g1,rfl,i,rfl⟩ ⟨_,g1,rfl⟩ ?_
 refine a0l A E s cpos [.ref a] (treesOf [arg] env) _ rfl (a0n (λx hx=> ?_) ?_)
 ·obtain⟨e,_,rfl⟩:=List.mem_map.mp hx;rfl
 ·refine spliced_cons (HE s R S _ _ λw f1 hp1 t1 K1 S1 r1=>spliced_nil ⟨S1.kin,?_⟩)
  refine n0h (s:={s with heap:=hp1,toks:=t1}) C (R.kp' K1) S1 r1 hk hv λh' t' S' R'=> ?_
  exact hQ .next f1 h' t' m cm .next K1.le S' R'
theorem b0e{l r:Expr}{op:Operator}{pos:Pos}{x y z:V}(HL:Tr X A (eval l env) f σ s x σ₁)(HR:∀f' h' t',Kp X f s.heap f' h'->St X f' σ₁ h'->Tr X A (eval r env) f' σ₁ {s with heap:=h',toks:=t'} y σ₂)(hop:opV op x y=some z):Tr X A (eval (.BinOp l op r pos) env) f σ s z σ₂:=by
 intro Q E hQ
 refine wpAny_BinOp (HL _ _ λva f1 h1 t1 K1 S1 r1=> ?_)
 refine HR f1 h1 t1 K1 S1 _ _ λvb f2 h2 t2 K2 S2 r2=> ?_
 exact x0c (s:={s with heap:=h2,toks:=t2}) S2 (r1.mono K2.le) r2 hop _ _ λvc f3 h3 t3 K3 S3 r3=>hQ vc f3 h3 t3 ((K1.trans K2).trans K3) S3 r3
theorem j0s{value upper:Expr}{p pos:Pos}{l:List V}{j:Nat}{b:Nat}{uv:V}(HV:Tr X A (eval value env) f σ s (.lst l j) σ₁)(HU:∀f' h' t',Kp X f s.heap f' h'->St X f' σ₁ h'->Tr X A (eval upper env) f' σ₁ {s with heap:=h',toks:=t'} uv σ₂)(hu:uv.toInt? =some (Int.ofNat b))
  (ht:∀o r,letTemporaryGo value o r=pure ())(hl:l.length≤100000):Tr X A (eval (.Subscript value (.Slice none (some upper) none p) pos) env) f σ s (.lst (l.take b) l.length) σ₂:=by
 intro Q E hQ
 refine wpAny_Subscript_list_slice (HV _ _ λva f1 h1 t1 K1 S1 r1=> ?_) ht
 refine wpAny_evalPart_none (wpAny_evalPart_some (HU f1 h1 t1 K1 S1 _ _ λvb f2 h2 t2 K2 S2 r2=> ?_))
 obtain⟨t,rfl⟩:=r2.toInt hu
 cases r1 with
 | @lst a vs i _ fv rv _ hn=>
 have rv2:=rv.mono K2.le
 refine⟨a,vs.toArray,none,some (Int.ofNat b),rfl,S2.list (K2.le _ _ fv),by rw[List.size_toArray,rv.length,line24];lia,.none,.int _ _,?_⟩
 have hpick:slicePick vs.toArray none (some (Int.ofNat b)) none=(vs.take b).toArray:=by
  rw[slicePick_plain]
  simp only [Option.elim_none,Option.elim_some,List.drop_zero,Nat.sub_zero]
  rw[show(Int.ofNat b)=((b:Nat):Int) from rfl,clipAt_nat]
  congr 1
  rw[List.size_toArray,List.take_eq_take_iff]
  simp
 rw[hpick]
 have S3:St X f2 σ₂ (h2.push {cls:=.type "slice",data:=.fields #[Value.none,.int (Int.ofNat b) t,.none]}):=S2.push
 have K3:Kp X f2 h2 f2 (h2.push {cls:=.type "slice",data:=.fields #[Value.none,.int (Int.ofNat b) t,.none]}):=Kp.push _
 have z:=S3.alloc (o:={cls:=.type "list",data:=.seq (vs.take b).toArray}) rfl
 rw[Heap.size_push] at z
 exact hQ _ _ _ t2 (((K1.trans K2).trans K3).trans z.2) z.1 (.lst (FH.put_self ..) ((rv2.take b).mono z.2.le) (by rw[List.length_take];exact Nat.min_le_right _ _))
end
theorem Bnd.hd{k d:Nat}{l:List Dr}(h:Bnd (.v k d::l))(hk:0<k):d<k:=h k d (.head _) hk
theorem Bnd.tl{d:Dr}{l:List Dr}(h:Bnd (d::l)):Bnd l:=λk d' hm=>h k d' (.tail _ hm)
theorem Bnd.mid{l m:List Dr}(h:Bnd (l++m)):Bnd m:=λk d hm=>h k d (List.mem_append_right _ hm)
noncomputable def doneN:Nat->Nat->Nd
 |0,n=>.mark n
 |1,n=>.spec n
 |2,n=>.write n
 |3,n=>.oout n
 |_,n=>.cout n
noncomputable def ExpI:Dr->List Dr->Prop
 | .flow u g,l=>l=[.n g.w,.v 5 g.more,.v 4 g.first,.v 5 g.less,.v 4 g.second]
 | .sizes a b c,l=>l=[.n a,.n b,.n c]
 | .list deep most k,l=>l= .v (most+1) k.length::k.map (.part deep)
 | .box deep nd,l=>∃k sh sg o up a b c m,nd= .box k sh sg o up a b c m∧l=[.list deep 3 m,.sizes a b c,.v 2 k,.v 4 sh,.v 3 sg,.v 4 o,.v 5 up]
 | .cell deep nd,l=>∃sp m o a b c k,nd= .cell sp m o a b c k∧l=[.list deep 2 k,.sizes a b c,.v 3 sp,.v 5 m,.v 4 o]
 | .letter nd,l=>(∃i c t,0<t∧nd= .char i c∧l=[.v 2 i,.v 6 c,.v 3 t])∨∃i c x r,nd= .lig i c x r∧l=[.v 2 i,.v 6 c,.v 3 0,.v 2 x,.v 2 r]
 | .done nd,l=>∃w n,w<5∧nd=doneN w n∧l=[.v 5 w,.v 20 n]
 | .skip deep nd,l=>(∃w g,w<6∧nd= .skip w g∧l=[.v 8 w,.flow (skipUnit w) g])∨(∃d s g x,deep=d+1∧nd= .lead s g x∧l=[.v 8 6,.flow [] g,.v 3 s,.box d x])∨∃s g x,nd= .lead s g x∧l=[.v 8 7,.flow [] g,.v 3 s,.rule x]
 | .rule nd,l=>∃a b c,nd= .rule a b c∧l=[.v 3 a,.v 3 b,.v 3 c]
 | .small way nd,l=>∃n s,l=[.n n,.v 4 s]∧((way=0∧nd= .kern n s)∨(way=1∧nd= .pen n)∨(way=2∧nd= .edge n (s / 2)))
 |_,_=>True
theorem Exp.inv{d:Dr}{l:List Dr}(h:Exp d l):ExpI d l:=
 Exp.casesOn (motive:=λd l x0=>ExpI d l) h (λx0 x0=>rfl) (λx0 x0 x0=>rfl) (λx0 x0 x0=>rfl) (λx0 k sh sg o up a b c l=>⟨k,sh,sg,o,up,a,b,c,l,rfl,rfl⟩) (λx0 sp m o a b c l=>⟨sp,m,o,a,b,c,l,rfl,rfl⟩)
  (λi c t ht=>.inl ⟨i,c,t,ht,rfl,rfl⟩) (λi c l r=>.inr ⟨i,c,l,r,rfl,rfl⟩) (λn=>⟨0,n,by decide,rfl,rfl⟩) (λn=>⟨1,n,by decide,rfl,rfl⟩) (λn=>⟨2,n,by decide,rfl,rfl⟩) (λn=>⟨3,n,by decide,rfl,rfl⟩) (λn=>⟨4,n,by decide,rfl,rfl⟩)
  (λx0 w g hw=>.inl ⟨w,g,hw,rfl,rfl⟩) (λd s g l=>.inr (.inl ⟨d,s,g,l,rfl,rfl,rfl⟩)) (λx0 s g l=>.inr (.inr ⟨s,g,l,rfl,rfl⟩)) (λa b c=>⟨a,b,c,rfl,rfl⟩)
  (λn s=>⟨n,s,rfl,.inl ⟨rfl,rfl⟩⟩) (λn s=>⟨n,s,rfl,.inr (.inl ⟨rfl,rfl⟩)⟩) (λn s=>⟨n,s,rfl,.inr (.inr ⟨rfl,rfl⟩)⟩)
  (λx0 x0 x0 x0=>trivial) (λx0 x0=>trivial) (λx0 x0 x0 x0=>trivial) (λx0 x0=>trivial) (λx0 x0=>trivial) (λx0 x0=>trivial) (λx0 x0=>trivial) (λx0 x0=>trivial) (λx0 x0 x0 x0=>trivial) (λx0 x0 x0 x0 x0 x0=>trivial) trivial (λx0 x0=>trivial) (λx0 x0 x0 x0 x0 x0=>trivial) (λx0 x0 x0 x0 x0 x0=>trivial)
section
variable {motive:Nd->List Dr->Prop} {nd:Nd} {l:List Dr} {k:Nat}
@[elab_as_elim] theorem Exp.eBox(e:Exp (.box k nd) l)(h:∀kk sh sg o up a b c m,motive (.box kk sh sg o up a b c m) [.list k 3 m,.sizes a b c,.v 2 kk,.v 4 sh,.v 3 sg,.v 4 o,.v 5 up]):motive nd l:=by
 obtain⟨kk,sh,sg,o,up,a,b,c,m,rfl,rfl⟩:=e.inv;exact h ..
@[elab_as_elim] theorem Exp.eCell(e:Exp (.cell k nd) l)(h:∀sp m o a b c x,motive (.cell sp m o a b c x) [.list k 2 x,.sizes a b c,.v 3 sp,.v 5 m,.v 4 o]):motive nd l:=by
 obtain⟨sp,m,o,a,b,c,x,rfl,rfl⟩:=e.inv;exact h ..
@[elab_as_elim] theorem Exp.eLet(e:Exp (.letter nd) l)(h:∀i c t,0<t->motive (.char i c) [.v 2 i,.v 6 c,.v 3 t])(h':∀i c x r,motive (.lig i c x r) [.v 2 i,.v 6 c,.v 3 0,.v 2 x,.v 2 r]):motive nd l:=by
 obtain⟨i,c,t,ht,rfl,rfl⟩|⟨i,c,x,r,rfl,rfl⟩:=e.inv
 ·exact h _ _ _ ht
 ·exact h' ..
@[elab_as_elim] theorem Exp.eDone(e:Exp (.done nd) l)(h:∀w n,w<5->motive (doneN w n) [.v 5 w,.v 20 n]):motive nd l:=by
 obtain⟨w,n,hw,rfl,rfl⟩:=e.inv;exact h _ _ hw
@[elab_as_elim] theorem Exp.eRule(e:Exp (.rule nd) l)(h:∀a b c,motive (.rule a b c) [.v 3 a,.v 3 b,.v 3 c]):motive nd l:=by
 obtain⟨a,b,c,rfl,rfl⟩:=e.inv;exact h ..
@[elab_as_elim] theorem Exp.eSkip(e:Exp (.skip (k+1) nd) l)(h:∀w g,w<6->motive (.skip w g) [.v 8 w,.flow (skipUnit w) g])(h1:∀s g x,motive (.lead s g x) [.v 8 6,.flow [] g,.v 3 s,.box k x])(h2:∀s g x,motive (.lead s g x) [.v 8 7,.flow [] g,.v 3 s,.rule x]):motive nd l:=by
 obtain⟨w,g,hw,rfl,rfl⟩|⟨d,s,g,x,hd,rfl,rfl⟩|⟨s,g,x,rfl,rfl⟩:=e.inv
 ·exact h _ _ hw
 ·cases hd;exact h1 ..
 ·exact h2 ..
@[elab_as_elim] theorem Exp.eKern(e:Exp (.small 0 nd) l)(h:∀n s,motive (.kern n s) [.n n,.v 4 s]):motive nd l:=by
 obtain⟨n,s,rfl,q⟩:=e.inv
 rcases q with⟨_,rfl⟩|⟨q,_⟩|⟨q,_⟩
 ·exact h ..
 ·cases q
 ·cases q
@[elab_as_elim] theorem Exp.ePen(e:Exp (.small 1 nd) l)(h:∀n s,motive (.pen n) [.n n,.v 4 s]):motive nd l:=by
 obtain⟨n,s,rfl,q⟩:=e.inv
 rcases q with⟨q,_⟩|⟨_,rfl⟩|⟨q,_⟩
 ·cases q
 ·exact h ..
 ·cases q
@[elab_as_elim] theorem Exp.eEdge(e:Exp (.small 2 nd) l)(h:∀n s,motive (.edge n (s / 2)) [.n n,.v 4 s]):motive nd l:=by
 obtain⟨n,s,rfl,q⟩:=e.inv
 rcases q with⟨q,_⟩|⟨q,_⟩|⟨_,rfl⟩
 ·cases q
 ·cases q
 ·exact h ..
end
theorem b0s{k:Nat}{nd:Nd}(h:leafOk nd):WfN k nd:=by
 cases k with
 |zero=>exact h
 |succ k=>cases nd<;>first|exact h|exact absurd h id
theorem h0y:∀{k:Nat}{nd:Nd},WfN k nd->WfN (k+1) nd
 |0,nd,h=>b0s h
 |k+1,nd,h=>by
  cases nd with
  |box=>exact⟨h.1,h.2.1,λx hx=>h0y (h.2.2 x hx)⟩
  |cell=>exact⟨h.1,h.2.1,λx hx=>h0y (h.2.2 x hx)⟩
  |lead=>exact⟨h.1,h.2.1,h.2.2.1,h0y h.2.2.2⟩
  |adj=>exact⟨h.1,λx hx=>h0y (h.2 x hx)⟩
  |ins=>exact⟨h.1,h.2.1,λx hx=>h0y (h.2.2 x hx)⟩
  |_=>exact h
theorem c0s{nd:Nd}(h:letOk nd):leafOk nd:=by
 cases nd<;>first|exact h|exact absurd h id
noncomputable def isRule:Nd->Prop
 | .rule _ _ _=>True
 |_=>False
noncomputable def isBox:Nd->Prop
 | .box _ _ _ _ _ _ _ _ _=>True
 |_=>False
theorem s0w{nd:Nd}(h:isBox nd):leadOk nd:=by cases nd<;>first|exact trivial|exact absurd h id
theorem o0m{nd:Nd}(h:isRule nd):leadOk nd:=by cases nd<;>first|exact trivial|exact absurd h id
noncomputable def WfD:Dr->Prop
 | .v _ _=>True
 | .n i=> -9≤i∧i≤20
 | .flow _ g=>gluOk g
 | .sizes _ _ _=>True
 | .list d m l=>l.length≤m∧∀x∈l,WfN (2 * d+1) x
 | .box d nd=>isBox nd∧WfN (2 * d+2) nd
 | .cell d nd=>WfN (2 * d+2) nd
 | .letter nd=>letOk nd
 | .done nd=>leafOk nd
 | .skip d nd=>WfN (2 * d+1) nd
 | .rule nd=>isRule nd∧leafOk nd
 | .small _ nd=>leafOk nd
 | .part d nd=>WfN (2 * d+1) nd
theorem j0t{l:List Nd}{ds:List Dr}(ih:∀d'∈ds,WfD d')(h:∀d∈l.map Dr.letter,d∈ds):∀x∈l,letOk x:=λx hx=>ih (.letter x) (h _ (List.mem_map.mpr ⟨x,hx,rfl⟩))
theorem Exp.wf{d:Dr}{l:List Dr}(h:Exp d l)(hb:Bnd l)(ih:∀d'∈l,WfD d'):WfD d:=by
 cases h with
 |flow u g=>exact⟨hb.tl.hd (by decide),hb.tl.tl.hd (by decide),hb.tl.tl.tl.hd (by decide),hb.tl.tl.tl.tl.hd (by decide)⟩
 |sizes=>trivial
 |list deep most l=>exact⟨Nat.le_of_lt_succ (hb.hd (Nat.succ_pos _)),λx hx=>ih (.part deep x) (.tail _ (List.mem_map.mpr ⟨x,hx,rfl⟩))⟩
 |box deep k sh sg o up a b c l=>
  have h1:l.length≤3∧∀x∈l,WfN (2 * deep+1) x:=ih (.list deep 3 l) (.head _)
  exact⟨trivial,⟨hb.tl.tl.hd (by decide),hb.tl.tl.tl.hd (by decide),hb.tl.tl.tl.tl.hd (by decide),hb.tl.tl.tl.tl.tl.hd (by decide),hb.tl.tl.tl.tl.tl.tl.hd (by decide)⟩,h1.1,h1.2⟩
 |cell deep sp m o a b c l=>
  have h1:l.length≤2∧∀x∈l,WfN (2 * deep+1) x:=ih (.list deep 2 l) (.head _)
  exact⟨⟨hb.tl.tl.hd (by decide),hb.tl.tl.tl.hd (by decide),hb.tl.tl.tl.tl.hd (by decide)⟩,Nat.le_succ_of_le h1.1,h1.2⟩
 |char i c t ht=>exact⟨hb.hd (by decide),hb.tl.hd (by decide)⟩
 |lig i c l r=>exact⟨hb.hd (by decide),hb.tl.hd (by decide),hb.tl.tl.tl.hd (by decide),hb.tl.tl.tl.tl.hd (by decide)⟩
 |mark n=>exact hb.tl.hd (by decide)
 |spec n=>exact hb.tl.hd (by decide)
 |write n=>exact hb.tl.hd (by decide)
 |oout n=>exact hb.tl.hd (by decide)
 |cout n=>exact hb.tl.hd (by decide)
 |skip deep w g hw=>exact⟨hw,ih (.flow (skipUnit w) g) (.tail _ (.head _))⟩
 |leadB deep s g l=>
  have h1:isBox l∧WfN (2 * deep+2) l:=ih (.box deep l) (.tail _ (.tail _ (.tail _ (.head _))))
  exact⟨hb.tl.tl.hd (by decide),ih (.flow [] g) (.tail _ (.head _)),s0w h1.1,h1.2⟩
 |leadR deep s g l=>
  have h1:isRule l∧leafOk l:=ih (.rule l) (.tail _ (.tail _ (.tail _ (.head _))))
  exact⟨hb.tl.tl.hd (by decide),ih (.flow [] g) (.tail _ (.head _)),o0m h1.1,b0s h1.2⟩
 |rule a b c=>exact⟨trivial,hb.hd (by decide),hb.tl.hd (by decide),hb.tl.tl.hd (by decide)⟩
 |kern n s=>exact hb.tl.hd (by decide)
 |pen n s=>trivial
 |edge n s=>
  have h1: -9≤n∧n≤20:=ih (.n n) (.head _)
  exact⟨h1.1,h1.2,Nat.div_lt_of_lt_mul (show s<2 * 2 from hb.tl.hd (by decide))⟩
 |pbox deep w nd hw=>
  have h1:isBox _∧WfN (2 * deep+2) _:=ih (.box deep _) (.tail _ (.head _))
  exact h0y h1.2
 |pcell deep=>
  have h1:WfN (2 * deep+2) _:=ih (.cell deep _) (.tail _ (.head _))
  exact h0y h1
 |pletter deep w _ hw=>
  have h1:letOk _:=ih (.letter _) (.tail _ (.head _))
  exact b0s (c0s h1)
 |pkern deep=>exact b0s (show leafOk _ from ih (.small 0 _) (.tail _ (.head _)))
 |ppen deep=>exact b0s (show leafOk _ from ih (.small 1 _) (.tail _ (.head _)))
 |prule deep=>exact b0s (show isRule _∧leafOk _ from ih (.rule _) (.tail _ (.head _))).2
 |pdone deep=>exact b0s (show leafOk _ from ih (.done _) (.tail _ (.head _)))
 |pedge deep=>exact b0s (show leafOk _ from ih (.small 2 _) (.tail _ (.head _)))
 |pskip deep w _ hw=>exact ih (.skip (deep+1) _) (.tail _ (.head _))
 |pdisc deep w a b c hw=>
  have hb:=hb.tl
  exact⟨⟨Nat.le_of_lt_succ (hb.hd (by decide)),Nat.le_of_lt_succ (hb.tl.mid.hd (by decide)),Nat.le_of_lt_succ (hb.tl.mid.tl.mid.hd (by decide))⟩,
   j0t ih λd hd=>.tail _ (.tail _ (List.mem_append_left _ hd)),j0t ih λd hd=>.tail _ (.tail _ (List.mem_append_right _ (.tail _ (List.mem_append_left _ hd)))),j0t ih λd hd=>.tail _ (.tail _ (List.mem_append_right _ (.tail _ (List.mem_append_right _ (.tail _ hd)))))⟩
 |padj0=>exact⟨Nat.zero_le _,λx hx=>nomatch hx⟩
 |padj deep l=>
  have h1:l.length≤2∧∀x∈l,WfN (2 * deep+1) x:=ih (.list deep 2 l) (.tail _ (.head _))
  exact⟨Nat.le_succ_of_le h1.1,λx hx=>h0y (h1.2 x hx)⟩
 |pins0 w num size cost g hw=>exact⟨⟨hb.tl.tl.hd (by decide),hb.tl.tl.tl.hd (by decide),ih (.flow [] g) (.tail _ (.head _))⟩,Nat.zero_le _,λx hx=>nomatch hx⟩
 |pins deep num size cost g l=>
  have h1:l.length≤2∧∀x∈l,WfN (2 * deep+1) x:=ih (.list deep 2 l) (.tail _ (.head _))
  exact⟨⟨hb.tl.tl.tl.hd (by decide),hb.tl.tl.tl.tl.hd (by decide),ih (.flow [] g) (.tail _ (.tail _ (.head _)))⟩,Nat.le_succ_of_le h1.1,λx hx=>h0y (h1.2 x hx)⟩
theorem Fo.wf{ds:List Dr}{p e:P2}(h:Fo ds p e):∀d∈ds,WfD d:=by
 induction h with
 |nil p=>intro d hm;cases hm
 | @v k r p q hf ih=>
  intro d hm
  rcases List.mem_cons.mp hm with rfl|hm
  ·trivial
  ·exact ih d hm
 | @n r p q hf ih=>
  intro d hm
  rcases List.mem_cons.mp hm with rfl|hm
  ·have:=c0e p (k:=30) (by decide)
   show -9≤(draw p 30:Int) - 9∧(draw p 30:Int) - 9≤20
   lia
  ·exact ih d hm
 |exp hx h1 h2 ih1 ih2=>
  intro d hm
  rcases List.mem_cons.mp hm with rfl|hm
  ·exact hx.wf h1.bnd ih1
  ·exact ih2 d hm
noncomputable def sizesV(a b c:Int):V:=.tup [.lst [.dimn a,.dimn b,.dimn c] 3,.str (sizesW a b c)]
theorem l0v(d:Nat)(r:List Dr)(e:P2)(nb:Bool)(md:Nat):RUN ovT (.ref 1265) [.gl 0] ⟨.v 30 d::r,e,nb,md⟩=some (.int (Int.ofNat d - 9),⟨r,e,nb,md⟩):=by kernel_rfl
theorem f1265:findE 1265 fns=some e1265:=by kernel_rfl
theorem f1277:findE 1277 fns=some e1277:=by kernel_rfl
noncomputable def ovNP:∀g xs σ,OvR IsX 8 g xs σ:=λg xs σ=>match g,xs,σ with
 | .ref a,[.gl 0],⟨.n i::r,e,nb,md⟩=>.at 1265 λha=>.ok (.num i) ⟨r,e,nb,md⟩ λX hK=>.re ha (FnV.drawn (fnCW hK f1265) λd hd hi=>by
   subst hi
   refine(a0g hK (b0y hK) _ _ _ _ _ (l0v d r e nb md)).res λf v h=> ?_
   cases h using VR.eInt with
   |int t=>exact .num _ t (by show -9≤(d:Int) - 9;lia) (by show(d:Int) - 9≤20;lia))
 |_,_,_=>.no
noncomputable def ovN:Ov:=ovAt [1265] (ovOf ovNP)
theorem d1f{X:Cx}(hK:IsX X):OvOK X 8 ovN:=(b0c hK).on
theorem i0h(σ:Gs):nums.map (λi=>RUN ovT (.ref 146) [.int (32768 * i)] σ)=nums.map (λi=>some (.int (32768 * i),σ)):=by kernel_rfl
theorem y0r(σ:Gs):nums.map (λi=>RUN ovT (.ref 139) [.int i] σ)=nums.map (λi=>some (.int i,σ)):=by kernel_rfl
theorem x0r(σ:Gs):(List.range 200).map (λn=>RUN ovT (.ref 125) [.int (Int.ofNat n),.int 0,.int 254] σ)=(List.range 200).map (λn=>some (.bool true,σ)):=by kernel_rfl
theorem f146:findE 146 fns=some e146:=by kernel_rfl
theorem f139:findE 139 fns=some e139:=by kernel_rfl
theorem f125:findE 125 fns=some e125:=by kernel_rfl
theorem y0p(σ:Gs):(List.range 4).map (λn=>RUN ovT (.ref 125) [.int (Int.ofNat n),.int 0,.int 3] σ)=(List.range 4).map (λn=>some (.bool true,σ)):=by kernel_rfl
noncomputable def ovKP:∀g xs σ,OvR IsX 8 g xs σ:=λg xs σ=>match g,xs with
 | .ref a,[.dimn i]=>.at 146 λha=>.ok (.dimn i) σ λX hK=>.re ha (.of1 (fnCW hK f146) λf v h=>by
   cases h using VR.eDimn with
   |dimn t g1 g2=>exact⟨_,.int _ t,(a0g hK (b0y hK) _ _ _ _ _ (c0x (i0h σ) i (b0w g1 g2))).res λf v h=>by cases h using VR.eInt with|int t=>exact .dimn _ _ g1 g2⟩)
 | .ref a,[.num i]=>.at 139 λha=>.ok (.num i) σ λX hK=>.re ha (.of1 (fnCW hK f139) λf v h=>by
   cases h using VR.eNum with
   |num t g1 g2=>exact⟨_,.int _ t,(a0g hK (b0y hK) _ _ _ _ _ (c0x (y0r σ) i (b0w g1 g2))).res λf v h=>by cases h using VR.eInt with|int t=>exact .num _ _ g1 g2⟩)
 | .ref a,[.oct n,.int i,.int j]=>.at 125 λha=>.onT (ieq i 0) λh1=>.onT (ieq j 254) λh2=>.ok (.bool true) σ λX hK=>.re ha ⟨fnCW hK f125,λA f s vs hA S hv=>by
   cases a0j h1
   cases a0j h2
   cases hv with
   |cons g1 hv=>
   cases g1 using VR.eOct with
   |oct t g1=>exact(a0g hK (b0y hK) _ _ _ _ _ (c0x (x0r σ) n (List.mem_range.mpr g1))).2 A f s _ hA S (.cons (.int _ t) hv)⟩
 | .ref a,[.int z,.int i,.int j]=>.at 125 λha=>.onT (ieq i 0) λh1=>.onT (ieq j 3) λh2=>.onT (Nat.ble z.toNat 3) λh3=>.onT (ieq z (Int.ofNat z.toNat)) λh4=>.ok (.bool true) σ λX hK=>.re ha (by
   cases a0j h1
   cases a0j h2
   rw[a0j h4]
   exact a0g hK (b0y hK) _ _ _ _ _ (c0x (y0p σ) z.toNat (List.mem_range.mpr (Nat.lt_succ_of_le (Nat.le_of_ble_eq_true h3)))))
 |_,_=>.no
noncomputable def ovK:Ov:=ovAt [146,139,125] (ovOf ovKP)
theorem b1z{X:Cx}(hK:IsX X):OvOK X 8 ovK:=(b0c hK).on
noncomputable def ov2:Ov:=orOv ovT (orOv ovH (orOv ovN ovK))
theorem w0t{X:Cx}(hK:IsX X):OvOK X 8 ov2:=((b0y hK).ups 7).or ((c1w hK).or ((d1f hK).or (b1z hK)))
theorem o0p(i j k:Int)(r:List Dr)(e:P2)(nb:Bool)(md:Nat):RUN ov2 (.ref 1277) [.gl 0] ⟨.n i:: .n j:: .n k::r,e,nb,md⟩=some (sizesV i j k,⟨r,e,nb,md⟩):=by kernel_rfl
noncomputable def ovSP:∀g xs σ,OvR IsX 15 g xs σ:=λg xs σ=>match g,xs,σ with
 | .ref a,[.gl 0],⟨.sizes i j k::r,e,nb,md⟩=>.at 1277 λha=>.ok (sizesV i j k) ⟨r,e,nb,md⟩ λX hK=>.re ha (FnV.exp rfl (fnCW hK f1277) λl hx hb=>by
   cases(show l=_ from hx.inv)
   exact a0g hK (w0t hK) _ _ _ _ _ (o0p i j k r e nb md))
 |_,_,_=>.no
noncomputable def ovS:Ov:=ovAt [1277] (ovOf ovSP)
theorem d1w{X:Cx}(hK:IsX X):OvOK X 15 ovS:=(b0c hK).on
noncomputable def prod{α β:Type}(a:List α)(b:List β):List (α × β):=match a with
 |[]=>[]
 |x::r=>b.map (λy=>(x,y))++prod r b
noncomputable def glus(w:Int):List Glu:=(prod (prod (List.range 5) (List.range 4)) (prod (List.range 5) (List.range 4))).map λp=>⟨w,p.1.1,p.1.2,p.2.1,p.2.2⟩
theorem z_q{z:Int}(h3:ieq (z.fmod 32768) 0=true):z=32768 * z.fdiv 32768:=by have:=a0j h3;have:=Int.mul_fdiv_add_fmod z 32768;lia
noncomputable def ovZP:∀g xs σ,OvR IsX 8 g xs σ:=λg xs σ=>match g,xs with
 | .ref a,[.int z]=>.onF (Nat.beq a 1258) (λha=>.onT (decide (-9≤z)) λh1=>.onT (decide (z≤20)) λh2=>.ok (.str (hw z)) σ λX hK=>.re (Nat.eq_of_beq_eq_true ha)
   (a0g hK (b0y hK) _ _ _ _ _ (c0x (l0l σ) z (b0w (of_decide_eq_true h1) (of_decide_eq_true h2))))) λx0=>
  .onT (decide (-294912≤z)) λh1=>.onT (decide (z≤655360)) λh2=>.onT (ieq (z.fmod 32768) 0) λh3=>.onF (Nat.beq a 146) (λha=>.ok (.int z) σ λX hK=>.re (Nat.eq_of_beq_eq_true ha) (by
   have h1:=of_decide_eq_true h1
   have h2:=of_decide_eq_true h2
   have q:=z_q h3
   have:=c0x (i0h σ) _ (b0w (i:=z.fdiv 32768) (by lia) (by lia))
   rw[←q] at this
   exact a0g hK (b0y hK) _ _ _ _ _ this)) λx0=>.at 167 λha=>.ok (.str (hw (z.fdiv 32768))) σ λX hK=>.re ha (by
   have h1:=of_decide_eq_true h1
   have h2:=of_decide_eq_true h2
   have q:=z_q h3
   have:=c0x (p0z σ) _ (b0w (i:=z.fdiv 32768) (by lia) (by lia))
   rw[←q] at this
   exact a0g hK (b0y hK) _ _ _ _ _ this)
 |_,_=>.no
noncomputable def ovZ:Ov:=ovAt [1258,146,167] (ovOf ovZP)
theorem b1r{X:Cx}(hK:IsX X):OvOK X 8 ovZ:=(b0c hK).on
noncomputable def ov3:Ov:=orOv ovZ (orOv ov2 ovS)
theorem f0f{X:Cx}(hK:IsX X):OvOK X 15 ov3:=((b1r hK).ups 7).or (((w0t hK).ups 7).or (d1w hK))
noncomputable def prd{α β:Type}(a:List α)(b:List β):List (α × β):=match a with
 |[]=>[]
 |x::r=>b.map (λy=>(x,y))++prd r b
theorem a0f{α β:Type}{x:α}{y:β}:∀{a:List α}{b:List β},x∈a->y∈b->(x,y)∈prd a b
 |z::r,b,h,hb=>by
  rcases List.mem_cons.mp h with rfl|h
  ·exact List.mem_append_left _ (List.mem_map.mpr ⟨y,hb,rfl⟩)
  ·exact List.mem_append_right _ (a0f h hb)
noncomputable def glu5(w:Int)(m:Nat):List Glu:=(prd (List.range 4) (prd (List.range 5) (List.range 4))).map λp=>⟨w,m,p.1,p.2.1,p.2.2⟩
noncomputable def FlRun(m:Nat):Prop:=∀(w:Int)(u:Str)(r:List Dr)(e:P2)(nb:Bool)(md:Nat),(glu5 w m).map (λg=>RUN ov3 (.ref 1272) [.gl 0,.str [.h u 2]] ⟨.n g.w:: .v 5 g.more:: .v 4 g.first:: .v 5 g.less:: .v 4 g.second::r,e,nb,md⟩)=(glu5 w m).map λg=>some (den (.flow [.h u 2] g),⟨r,e,nb,md⟩)
theorem fl0:FlRun 0:=by
 intro w u r e nb md
 kernel_rfl
theorem fl1:FlRun 1:=by
 intro w u r e nb md
 kernel_rfl
theorem fl2:FlRun 2:=by
 intro w u r e nb md
 kernel_rfl
theorem fl3:FlRun 3:=by
 intro w u r e nb md
 kernel_rfl
theorem fl4:FlRun 4:=by
 intro w u r e nb md
 kernel_rfl
theorem s0q:∀m,m<5->FlRun m
 |0,_=>fl0
 |1,_=>fl1
 |2,_=>fl2
 |3,_=>fl3
 |4,_=>fl4
theorem v0d{g:Glu}(h1:g.more<5)(h2:g.first<4)(h3:g.less<5)(h4:g.second<4)(u:Str)(r:List Dr)(e:P2)(nb:Bool)(md:Nat):RUN ov3 (.ref 1272) [.gl 0,.str [.h u 2]] ⟨.n g.w:: .v 5 g.more:: .v 4 g.first:: .v 5 g.less:: .v 4 g.second::r,e,nb,md⟩=some (den (.flow [.h u 2] g),⟨r,e,nb,md⟩):=
 c0x (s0q g.more h1 g.w u r e nb md) g (List.mem_map.mpr ⟨(g.first,g.less,g.second),a0f (List.mem_range.mpr h2) (a0f (List.mem_range.mpr h3) (List.mem_range.mpr h4)),rfl⟩)
theorem s0e{g:Glu}(h1:g.more<5)(h2:g.first<4)(h3:g.less<5)(h4:g.second<4):g∈glus g.w:=by
 obtain⟨w,a,b,c,d⟩:=g
 exact List.mem_map.mpr ⟨((a,b),(c,d)),a0f (a0f (List.mem_range.mpr h1) (List.mem_range.mpr h2)) (a0f (List.mem_range.mpr h3) (List.mem_range.mpr h4)),rfl⟩
theorem q0j{u u':Wd}(h:wcps u=wcps u')(k:Nat):wcps (unitW u k)=wcps (unitW u' k):=by
 cases k with
 |zero=>exact h
 |succ k=>rfl
theorem e0z{u u':Wd}(h:wcps u=wcps u')(g:Glu):wden (gtxt u g)=wden (gtxt u' g):=by
 apply b0k
 rw[a0i,a0i]
 unfold gtxt
 simp only [b0u,h]
 cases g.more<;>cases g.less<;>simp only [b0u,q0j h]
theorem u0r(w:Int):allB (λg=>andB (Nat.ble (wlen (gtxt [] g)) 100) (Nat.ble (wlen (gtxt (wS "mu") g)) 100)) (glus w)=true:=by kernel_rfl
theorem y0v(k:Nat):wok (ordW k):=by
 unfold ordW
 split<;>first|trivial|exact f0g _
theorem l0c{u:Wd}(h:wok u)(k:Nat):wok (unitW u k):=by
 cases k with
 |zero=>exact h
 |succ k=>exact y0v _
theorem d1p{i:Int}(h:i∈nums):wok (hw i):=f0h (v0v i h)
set_option tactic.hygienic true in
theorem j0u{u:Wd}(hu:wok u){g:Glu}(hw':wok (hh g.w))(h1:g.more<5)(h3:g.less<5):wok (gtxt u g):=by
 have small:∀k:Nat,k<5->wok (hw (Int.ofNat k)):=λk hk=>d1p (b0w (by show(-9:Int)≤(k:Int);lia) (by show(k:Int)≤20;lia))
 unfold gtxt
 refine a0p hw' (a0p hu (a0p ?_ ?_))
 ·split
  ·trivial
  ·rename_i k hk
   rw[hk] at h1
   exact a0p (f0g _) (a0p (small _ h1) (l0c hu _))
 ·split
  ·trivial
  ·rename_i k hk
   rw[hk] at h3
   exact a0p (f0g _) (a0p (small _ h3) (l0c hu _))
theorem g0k{u:Wd}{g:Glu}(ho:wok (gtxt u g))(h:Nat.ble (wlen (gtxt u g)) 100=true):(gtxtS u g).length≤200:=by
 have:=a0s ho
 have:=Nat.le_of_ble_eq_true h
 show(wden (gtxt u g)).length≤200
 lia
theorem k0z:∀{a b:Wd},wok (a++b)->wok a
 |[],_,_=>trivial
 |_::_,_,h=>⟨h.1,k0z h.2⟩
theorem f1272:findE 1272 fns=some e1272:=by kernel_rfl
noncomputable def muB:List Nat->Bool
 |[]=>true
 |l=>leq l [109,117]
theorem t0q{l:List Nat}(h:muB l=true):l=[]∨l=[109,117]:=by
 cases l with
 |nil=>exact .inl rfl
 |cons c r=>exact .inr ((b0r _ _).mp h)
theorem s0b{X:Cx}(hK:IsX X){u u':Wd}{l:List Nat}{g:Glu}{r:List Dr}{e:P2}{nb:Bool}{md:Nat}(h2:wlit u=some l)(h3:wlit u'=some l)(h6:wlen u'≤2)(h7:muB l=true):FnV X 22 (.ref 1272) [.gl 0,.str u] ⟨.flow u' g::r,e,nb,md⟩ (.abs (.flow u' g)) ⟨r,e,nb,md⟩:=by
 have hc:wcps u=wcps u':=by rw[a0x h2,a0x h3]
 have hu':wok u':=h0d h3
 have hl:(wden u').length≤2:=Nat.le_trans (a0s hu') h6
 refine FnV.exp rfl (fnCW hK f1272) λll hx hb=> ?_
 cases(show ll=_ from hx.inv)
 have hb:=hb.tl
 have b1:g.more<5:=hb.hd (by decide)
 have b2:g.first<4:=hb.tl.hd (by decide)
 have b3:g.less<5:=hb.tl.tl.hd (by decide)
 have b4:g.second<4:=hb.tl.tl.tl.hd (by decide)
 have hm:=s0e b1 b2 b3 b4
 refine((a0g hK (f0f hK) _ _ _ _ _ (v0d b1 b2 b3 b4 (wden u') r e nb md)).arg λf vs hv=> ?_).res λf v h=> ?_
 ·cases hv with
  |cons g1 hv=>
  cases hv with
  |cons g2 hv=>
  cases hv
  exact .two g1 (toHole g2 (by rw[a0e];exact b0k hc) ⟨hl,trivial⟩)
 have hden:wden (gtxt [.h (wden u') 2] g)=wden (gtxt u' g):=e0z (by show(wden u').cps.toList++[]=_;rw[List.append_nil];rfl) g
 cases h using VR.eTup with
 | @tup a vs fv rv=>
 cases rv with
 |cons g1 rv=>
 cases rv with
 |cons g2 rv=>
 cases rv
 have hwk:wok (hh g.w):=by
  cases g2 using VR.eStr with
  |str t ho=>exact k0z ho
 have l12:=e0j (a0o (u0r g.w) g hm)
 have k0:=g0k (j0u (u:=[]) trivial hwk b1 b3) l12.1
 have k1:=g0k (j0u (u:=wS "mu") (f0g _) hwk b1 b3) l12.2
 have ku:(gtxtS u' g).length≤200:=by
  rcases t0q h7 with rfl|rfl
  ·rw[show gtxtS u' g=gtxtS [] g from e0z (by rw[a0x h3];rfl) g];exact k0
  ·rw[show gtxtS u' g=gtxtS (wS "mu") g from e0z (by rw[a0x h3];kernel_rfl) g];exact k1
 exact .abs ⟨ku,⟨k0,k1⟩,b1,b2,b3,b4⟩ (.tup fv (.two g1 (toHole g2 hden (j0u hu' hwk b1 b3))))
noncomputable def ovFP:∀g xs σ,OvR IsX 22 g xs σ:=λg xs σ=>match g,xs,σ with
 | .ref a,[.gl 0,.str u],⟨.flow u' g::r,e,nb,md⟩=>.at 1272 λha=>.onS (wlit u) λl h2=>.onS (wlit u') λl' h3=>.onT (leq l l') λh4=>.onT (Nat.ble (wlen u') 2) λh6=>.onT (muB l') λh7=>.ok (.abs (.flow u' g)) ⟨r,e,nb,md⟩ λX hK=>.re ha (by
   cases(b0r _ _).mp h4
   exact s0b hK h2 h3 (Nat.le_of_ble_eq_true h6) h7)
 |_,_,_=>.no
noncomputable def ovF:Ov:=ovAt [1272] (ovOf ovFP)
theorem w0e{X:Cx}(hK:IsX X):OvOK X 22 ovF:=(b0c hK).on
noncomputable def ov5:Ov:=orOv ovF ov3
theorem g0n{X:Cx}(hK:IsX X):OvOK X 22 ov5:=(w0e hK).or ((f0f hK).ups 7)
theorem toPart{X:Cx}{f:FH}{v:Value}{nd:Nd}(h:VR X f v (partV nd))(hl:Nat.ble (wlen (textOf nd)) 400=true):VR X f v (.abs (.part nd)):=by
 refine .abs ?_ h
 unfold partV at h
 cases h using VR.eTup with
 |tup fv rv=>
 cases rv with
 |cons g1 rv=>
 cases rv with
 |cons g2 rv=>
 cases g2 using VR.eStr with
 |str t ho=>exact Nat.le_trans (a0s ho) (Nat.le_of_ble_eq_true hl)
theorem toLpart{X:Cx}{f:FH}{v:Value}{nd:Nd}(h:VR X f v (partV nd))(hl:Nat.ble (wlen (textOf nd)) 400=true)(hi:isLetter nd=true):VR X f v (.abs (.lpart nd)):=by
 have:=toPart h hl
 cases this using VR.eAbs with
 |abs k _=>exact .abs ⟨hi,k⟩ h
noncomputable def lets:List (Nd × List Dr):=
 (prd (prd (List.range 2) (List.range 6)) (List.range 2)).map (λp=>(.char p.1.1 p.1.2,[.v 2 p.1.1,.v 6 p.1.2,.v 3 (p.2+1)]))++
 (prd (prd (List.range 2) (List.range 6)) (prd (List.range 2) (List.range 2))).map (λp=>(.lig p.1.1 p.1.2 p.2.1 p.2.2,[.v 2 p.1.1,.v 6 p.1.2,.v 3 0,.v 2 p.2.1,.v 2 p.2.2]))
theorem r0p(r:List Dr)(e:P2)(nb:Bool)(md:Nat):lets.map (λp=>RUN ov5 (.ref 1294) [.gl 0,.abs .tools] ⟨p.2++r,e,nb,md⟩)=mapR (λp=>some (partV p.1,⟨r,e,nb,md⟩)) lets:=by kernel_rfl
theorem n0s:allB (λp:Nd × List Dr=>Nat.ble (wlen (textOf p.1)) 400) lets=true:=by kernel_rfl
noncomputable def ruls:List (Nd × List Dr):=(prd (prd (List.range 3) (List.range 3)) (List.range 3)).map λp=>(.rule p.1.1 p.1.2 p.2,[.v 3 p.1.1,.v 3 p.1.2,.v 3 p.2])
theorem a1j(r:List Dr)(e:P2)(nb:Bool)(md:Nat):ruls.map (λp=>RUN ov5 (.ref 1313) [.gl 0] ⟨p.2++r,e,nb,md⟩)=mapR (λp=>some (partV p.1,⟨r,e,nb,md⟩)) ruls:=by kernel_rfl
theorem z0q:allB (λp:Nd × List Dr=>Nat.ble (wlen (textOf p.1)) 400) ruls=true:=by kernel_rfl
theorem u0j(n:Int)(r:List Dr)(e:P2)(nb:Bool)(md:Nat):(List.range 4).map (λs=>RUN ov5 (.ref 1320) [.gl 0,.int 0] ⟨.n n:: .v 4 s::r,e,nb,md⟩)=mapR (λs=>some (partV (.kern n s),⟨r,e,nb,md⟩)) (List.range 4):=by kernel_rfl
theorem x0z(n:Int)(s:Nat)(r:List Dr)(e:P2)(nb:Bool)(md:Nat):RUN ov5 (.ref 1320) [.gl 0,.int 1] ⟨.n n:: .v 4 s::r,e,nb,md⟩=some (partV (.pen n),⟨r,e,nb,md⟩):=by kernel_rfl
theorem u0b(n:Int):allB (λs=>Nat.ble (wlen (textOf (.kern n s))) 400) (List.range 4)=true:=by kernel_rfl
noncomputable def edN(p:Nat × Nat):Nd:=.edge (Int.ofNat p.1 - 9) (p.2 / 2)
theorem t0a(r:List Dr)(e:P2)(nb:Bool)(md:Nat):(prd (List.range 30) (List.range 4)).map (λp=>RUN ov5 (.ref 1320) [.gl 0,.int 2] ⟨.v 30 p.1:: .v 4 p.2::r,e,nb,md⟩)=mapR (λp=>some (partV (edN p),⟨r,e,nb,md⟩)) (prd (List.range 30) (List.range 4)):=by kernel_rfl
theorem t0g:allB (λp:Nat × Nat=>Nat.ble (wlen (textOf (edN p))) 400) (prd (List.range 30) (List.range 4))=true:=by kernel_rfl
theorem z0h(n:Int):Nat.ble (wlen (textOf (.pen n))) 400=true:=by kernel_rfl
noncomputable def orB(a:Bool):Bool->Bool
 |false=>a
 |true=>true
mutual
noncomputable def dn:Nd->Bool
 | .box _ _ _ _ _ _ _ _ l=>dnL l
 | .cell _ _ _ _ _ _ l=>dnL l
 | .mark _=>true
 | .spec _=>true
 | .write _=>true
 | .oout _=>true
 | .cout _=>true
 | .lead _ _ l=>dn l
 | .disc a b c=>orB (orB (dnL a) (dnL b)) (dnL c)
 | .adj l=>dnL l
 | .ins _ _ _ _ l=>dnL l
 |_=>false
noncomputable def dnL:List Nd->Bool
 |[]=>false
 |a::r=>orB (dn a) (dnL r)
end
theorem e0d(a b c:Bool):orB (orB a b) c=orB a (orB b c):=by cases b<;>cases c<;>rfl
noncomputable def ar0(xs:List V):Bool:=okO (p:=xs=[.gl 0]) (match xs with
 |[.gl 0]=>some ⟨(),rfl⟩
 |_=>none)
noncomputable def ar1(k:Int)(xs:List V):Bool:=okO (p:=xs=[.gl 0,.int k]) (match xs with
 |[.gl 0,.int i]=>onT (ieq i k) λh=>some ⟨(),by rw[a0j h]⟩
 |_=>none)
noncomputable def arT(xs:List V):Bool:=okO (p:=xs=[.gl 0,.abs .tools]) (match xs with
 |[.gl 0,.abs .tools]=>some ⟨(),rfl⟩
 |_=>none)
noncomputable def arT1(k:Int)(xs:List V):Bool:=okO (p:=xs=[.gl 0,.abs .tools,.int k]) (match xs with
 |[.gl 0,.abs .tools,.int i]=>onT (ieq i k) λh=>some ⟨(),by rw[a0j h]⟩
 |_=>none)
noncomputable def arT2(k m:Int)(xs:List V):Bool:=okO (p:=xs=[.gl 0,.abs .tools,.int k,.int m]) (match xs with
 |[.gl 0,.abs .tools,.int i,.int j]=>onT (ieq i k) λh=>onT (ieq j m) λh'=>some ⟨(),by rw[a0j h,a0j h']⟩
 |_=>none)
theorem d1j{xs:List V}(h:ar0 xs=true):xs=[.gl 0]:=c0c h
theorem d1s{k:Int}{xs:List V}(h:ar1 k xs=true):xs=[.gl 0,.int k]:=c0c h
theorem w0z{xs:List V}(h:arT xs=true):xs=[.gl 0,.abs .tools]:=c0c h
theorem h0c{k:Int}{xs:List V}(h:arT1 k xs=true):xs=[.gl 0,.abs .tools,.int k]:=c0c h
theorem z0m{k m:Int}{xs:List V}(h:arT2 k m xs=true):xs=[.gl 0,.abs .tools,.int k,.int m]:=c0c h
noncomputable def SubE(l:List Dr):Prop:=∀d∈l,cplx d=true->∃l',Exp d l'∧Bnd l'
theorem Fo.mem{ds:List Dr}{p e:P2}(h:Fo ds p e):SubE ds:=by
 induction h with
 |nil p=>intro d hm;cases hm
 |v hf ih=>
  intro d hm hd
  rcases List.mem_cons.mp hm with rfl|hm
  ·cases hd
  ·exact ih d hm hd
 |n hf ih=>
  intro d hm hd
  rcases List.mem_cons.mp hm with rfl|hm
  ·cases hd
  ·exact ih d hm hd
 |exp hx h1 h2 _ ih=>
  intro d hm hd
  rcases List.mem_cons.mp hm with rfl|hm
  ·exact⟨_,hx,h1.bnd⟩
  ·exact ih d hm hd
theorem Inv.expS{X:Cx}{h:Heap}{d:Dr}{r:List Dr}{e:P2}{nb:Bool}{md:Nat}(I:Inv X ⟨d::r,e,nb,md⟩ h)(hd:cplx d=true):∃l,Exp d l∧Bnd l∧SubE l∧Inv X ⟨l++r,e,nb,md⟩ h:=by
 obtain⟨⟨p,t,u,hl,hf⟩,l',gs,bd,nm⟩:=I
 cases hf with
 |v hf=>cases hd
 |n hf=>cases hd
 |exp hx h1 h2=>exact⟨_,hx,h1.bnd,h1.mem,⟨p,t,u,hl,h1.append h2⟩,l',gs,bd,nm⟩
theorem FnV.expS{X:Cx}{n:Nat}{g:Value}{xs:List V}{y:V}{d:Dr}{r:List Dr}{e:P2}{nb nb':Bool}{md:Nat}(hd:cplx d=true)(hc:CW X g)(H:∀l,Exp d l->Bnd l->SubE l->FnV X n g xs ⟨l++r,e,nb,md⟩ y ⟨r,e,nb',md⟩):FnV X n g xs ⟨d::r,e,nb,md⟩ y ⟨r,e,nb',md⟩:=
 ⟨hc,λA f s vs hA S h=>by
  obtain⟨l,h1,h2,h3,h4⟩:=S.inv.expS hd
  exact(H l h1 h2 h3).2 A f s vs hA (S.re h4) h⟩
noncomputable def SelR{α:Type}(c:α->Dr)(mk:α->Dom)(b:α->Bool)(d:Dr):Type:=Option {p:V × Bool // ∃x,d=c x∧p=(V.abs (mk x),b x)}
section
variable {α:Type} {c:α->Dr} {mk:α->Dom} {b:α->Bool} {d:Dr}
noncomputable def SelR.ok(x:α)(h:d=c x):SelR c mk b d:=some ⟨(.abs (mk x),b x),x,h,rfl⟩
noncomputable def SelR.no:SelR c mk b d:=none
noncomputable def SelR.onT(q:Bool)(k:q=true->SelR c mk b d):SelR c mk b d:=Mine.onT q k
end
structure DrR(a:Nat)(ys:List V)(g:Value)(xs:List V)(σ:Gs)(r:V × Gs)(c:Dr)(y:V)(k:Bool):Prop where
 g:g= .ref a
 xs:xs=ys
 ex:∃ds e nb,σ=⟨c::ds,e,nb,0⟩∧r=(y,⟨ds,e,orB nb k,0⟩)
noncomputable def drP{α:Type}{c:α->Dr}{mk:α->Dom}{b:α->Bool}(a:Nat)(ys:List V)(ar:List V->Bool)(ha:∀xs,ar xs=true->xs=ys)(sel:∀d,SelR c mk b d)(g:Value)(xs:List V)(σ:Gs):Option {r:V × Gs // ∃x,DrR a ys g xs σ r (c x) (.abs (mk x)) (b x)}:=match g with
 | .ref q=>onT (Nat.beq q a) λh1=>onT (ar xs) λh2=>match σ with
  |⟨d::ds,e,nb,0⟩=>onP (sel d) λp hp=>some ⟨(p.1,⟨ds,e,orB nb p.2,0⟩),by
   obtain⟨x,rfl,rfl⟩:=hp
   exact⟨x,congrArg Value.ref (Nat.eq_of_beq_eq_true h1),ha _ h2,ds,e,nb,rfl,rfl⟩⟩
  |_=>none
 |_=>none
noncomputable def drOv{α:Type}{c:α->Dr}{mk:α->Dom}{b:α->Bool}{ys:List V}(a:Nat)(ar:List V->Bool)(ha:∀xs,ar xs=true->xs=ys)(sel:∀d,SelR c mk b d):Ov:=λg xs σ=>valO (drP a ys ar ha sel g xs σ)
theorem b0x{α:Type}{c:α->Dr}{mk:α->Dom}{b:α->Bool}{X:Cx}{n a:Nat}{ar:List V->Bool}{ys:List V}{ha:∀xs,ar xs=true->xs=ys}{sel:∀d,SelR c mk b d}(hc:CW X (.ref a))(hx:∀x,cplx (c x)=true)
  (H:∀x r e nb l,Exp (c x) l->Bnd l->SubE l->FnV X n (.ref a) ys ⟨l++r,e,nb,0⟩ (.abs (mk x)) ⟨r,e,orB nb (b x),0⟩):OvOK X n (drOv a ar ha sel):=by
 intro g xs σ y σ' h
 obtain⟨x,rfl,rfl,ds,e,nb,rfl,hr⟩:=a0t (o:=drP a ys ar ha sel g xs σ) (z:=(y,σ')) h
 cases hr
 exact FnV.expS (hx x) hc λl hx hb hs=>H x ds e nb l hx hb hs
theorem f1294:findE 1294 fns=some e1294:=by kernel_rfl
theorem f1313:findE 1313 fns=some e1313:=by kernel_rfl
theorem f1320:findE 1320 fns=some e1320:=by kernel_rfl
noncomputable def selLet:∀d,SelR .letter .lpart dn d
 | .letter nd=>.ok nd rfl
 |_=>.no
noncomputable def selRul:∀d,SelR .rule .part dn d
 | .rule nd=>.ok nd rfl
 |_=>.no
noncomputable def selSm(k:Nat):∀d,SelR (.small k) .part dn d
 | .small j nd=>.onT (Nat.beq j k) λh=>.ok nd (by rw[Nat.eq_of_beq_eq_true h])
 |_=>.no
noncomputable def ovLet:Ov:=drOv 1294 arT (λx0=>w0z) selLet
noncomputable def ovRul:Ov:=drOv 1313 ar0 (λx0=>d1j) selRul
noncomputable def ovSm(k:Nat):Ov:=drOv 1320 (ar1 (Int.ofNat k)) (λx0=>d1s) (selSm k)
theorem u0m{X:Cx}(hK:IsX X):OvOK X 29 ovLet:=b0x (fnCW hK f1294) (λx0=>rfl) λnd r e nb l hx=>hx.eLet (λi c t ht hb x0=>by
  have hm:(Nd.char i c,[Dr.v 2 i,.v 6 c,.v 3 t])∈lets:=List.mem_append_left _ (List.mem_map.mpr ⟨((i,c),t - 1),a0f (a0f (List.mem_range.mpr (hb.hd (by decide))) (List.mem_range.mpr (hb.tl.hd (by decide)))) (List.mem_range.mpr (by have:t<3:=hb.tl.tl.hd (by decide);lia)),by
   rw[show t - 1+1=t from Nat.succ_pred_eq_of_pos ht]⟩)
  exact(a0g hK (g0n hK) _ _ _ _ _ (a0a (r0p r e nb 0) _ hm)).res λf v h=>toLpart h (a0o n0s _ hm) rfl) λi c l r hb x0=>by
  have hm:(Nd.lig i c l r,[Dr.v 2 i,.v 6 c,.v 3 0,.v 2 l,.v 2 r])∈lets:=List.mem_append_right _ (List.mem_map.mpr ⟨((i,c),(l,r)),a0f (a0f (List.mem_range.mpr (hb.hd (by decide))) (List.mem_range.mpr (hb.tl.hd (by decide)))) (a0f (List.mem_range.mpr (hb.tl.tl.tl.hd (by decide))) (List.mem_range.mpr (hb.tl.tl.tl.tl.hd (by decide)))),rfl⟩)
  exact(a0g hK (g0n hK) _ _ _ _ _ (a0a (r0p _ e nb 0) _ hm)).res λf v h=>toLpart h (a0o n0s _ hm) rfl
theorem s0r{X:Cx}(hK:IsX X):OvOK X 29 ovRul:=b0x (fnCW hK f1313) (λx0=>rfl) λnd r e nb l hx=>hx.eRule λa b c hb x0=>by
  have hm:(Nd.rule a b c,[Dr.v 3 a,.v 3 b,.v 3 c])∈ruls:=List.mem_map.mpr ⟨((a,b),c),a0f (a0f (List.mem_range.mpr (hb.hd (by decide))) (List.mem_range.mpr (hb.tl.hd (by decide)))) (List.mem_range.mpr (hb.tl.tl.hd (by decide))),rfl⟩
  exact(a0g hK (g0n hK) _ _ _ _ _ (a0a (a1j r e nb 0) _ hm)).res λf v h=>toPart h (a0o z0q _ hm)
theorem n0m{X:Cx}(hK:IsX X):OvOK X 29 (ovSm 0):=b0x (fnCW hK f1320) (λx0=>rfl) λnd r e nb l hx=>hx.eKern λn s hb x0=>by
  have hm:s∈List.range 4:=List.mem_range.mpr (hb.tl.hd (by decide))
  exact(a0g hK (g0n hK) _ _ _ _ _ (a0a (u0j n r e nb 0) _ hm)).res λf v h=>toPart h (a0o (u0b n) _ hm)
theorem t0n{X:Cx}(hK:IsX X):OvOK X 29 (ovSm 1):=b0x (fnCW hK f1320) (λx0=>rfl) λnd r e nb l hx=>hx.ePen λn s hb x0=>
  (a0g hK (g0n hK) _ _ _ _ _ (x0z n s r e nb 0)).res λf v h=>toPart h (z0h n)
theorem FnV.drawnG{X:Cx}{n:Nat}{g:Value}{xs:List V}{y:V}{σ':Gs}{i:Int}{r:List Dr}{e:P2}{nb:Bool}{md:Nat}(hc:CW X g)(H:∀d:Nat,d<30->i=(d:Int) - 9->FnV X n g xs ⟨.v 30 d::r,e,nb,md⟩ y σ'):FnV X n g xs ⟨.n i::r,e,nb,md⟩ y σ':=
 ⟨hc,λA f s vs hA S h=>by
  obtain⟨d,h1,h2,h3⟩:=S.inv.num
  exact(H d h1 h2).2 A f s vs hA (S.re h3) h⟩
theorem o0i{X:Cx}(hK:IsX X):OvOK X 29 (ovSm 2):=b0x (fnCW hK f1320) (λx0=>rfl) λnd r e nb l hx=>hx.eEdge λn s hb x0=>FnV.drawnG (fnCW hK f1320) λd hd hn=>by
  subst hn
  have hm:(d,s)∈prd (List.range 30) (List.range 4):=a0f (List.mem_range.mpr hd) (List.mem_range.mpr (hb.tl.hd (by decide)))
  show FnV X 29 _ _ _ (.abs (.part (edN (d,s)))) _
  exact(a0g hK (g0n hK) _ _ _ _ _ (a0a (t0a r e nb 0) _ hm)).res λf v h=>toPart h (a0o t0g _ hm)
noncomputable def ov6:Ov:=orOv ovLet (orOv ovRul (orOv (ovSm 0) (orOv (ovSm 1) (ovSm 2))))
theorem e1q{X:Cx}(hK:IsX X):OvOK X 29 ov6:=(u0m hK).or ((s0r hK).or ((n0m hK).or ((t0n hK).or (o0i hK))))
noncomputable def etcS:Str:=wden (wS "etc.")
noncomputable def cutS:Str:=wden (wS " []")
noncomputable def flatN:List Nd->List Nd
 |[]=>[]
 |x::r=>x::(repl x++flatN r)
noncomputable def cutR(s:Str):List (Wd × List Nd)->Str
 |[]=>s
 |p::r=>cutR (match p.2 with|[]=>s|_=>s++cutS) r
noncomputable def subR(LR:Str->List Nd->List Str)(a:Str):List (Wd × List Nd)->List Str
 |[]=>[]
 |p::r=>LR (a++wden p.1) p.2++subR LR a r
noncomputable def nodeWith(d:Nat)(LR:Str->List Nd->List Str)(a:Str)(nd:Nd):List Str:=
 if a.length<d then(a++txt nd)::subR LR a (listsOf nd) else[cutR (a++txt nd) (listsOf nd)]
noncomputable def rowsOf(g:Nd->List Str):List Nd->List Str
 |[]=>[]
 |x::r=>g x++rowsOf g r
noncomputable def listR(d b:Nat):Nat->Str->List Nd->List Str
 |0,_,_=>[]
 |k+1,a,l=>rowsOf (nodeWith d (listR d b k) a) ((flatN l).take b)++(if b<(flatN l).length then[a++etcS] else[])
theorem c0k(g:Nd->List Str):∀l k:List Nd,rowsOf g (l++k)=rowsOf g l++rowsOf g k
 |[],_=>rfl
 |_::l,k=>(congrArg _ (c0k g l k)).trans (List.append_assoc ..).symm
theorem g0w{g:Nd->List Str}{c:Nat}:∀{l:List Nd},(∀x∈l,(g x).length≤c)->(rowsOf g l).length≤c * l.length
 |[],_=>Nat.zero_le _
 |x::r,h=>Nat.le_trans (Nat.le_of_eq List.length_append) (Nat.le_trans (Nat.add_le_add (h x (.head _)) (g0w λy hy=>h y (.tail _ hy))) (Nat.le_of_eq (Nat.add_comm ..)))
theorem f0m{nd:Nd}(h:letOk nd):listsOf nd=[]∧repl nd=[]:=by
 cases nd<;>first|exact⟨rfl,rfl⟩|exact h.elim
theorem c0j{nd:Nd}(h:leafOk nd):listsOf nd=[]∧repl nd=[]:=by
 cases nd<;>first|exact⟨rfl,rfl⟩|exact h.elim
theorem e0o{d:Nat}{LR:Str->List Nd->List Str}{a:Str}{nd:Nd}{n:Nat}(h:(subR LR a (listsOf nd)).length≤n):(nodeWith d LR a nd).length≤n+1:=by
 unfold nodeWith
 by_cases q:a.length<d
 ·rw[if_pos q];exact Nat.succ_le_succ h
 ·rw[if_neg q];exact Nat.succ_le_succ (Nat.zero_le _)
theorem h0s{d:Nat}{LR:Str->List Nd->List Str}{a:Str}{nd:Nd}(h:listsOf nd=[]):(nodeWith d LR a nd).length≤1:=e0o (n:=0) (h▸Nat.le_refl 0)
theorem k0t:∀{l:List Nd},(∀x∈l,letOk x)->flatN l=l
 |[],_=>rfl
 |x::r,h=>congrArg (x::·) (congr (congrArg List.append (f0m (h x (.head _))).2) (k0t λy hy=>h y (.tail _ hy)))
theorem h0k{k:Nat}{nd:Nd}(h:WfN k nd):(repl nd).length≤2∧∀x∈repl nd,letOk x:=by
 cases k with
 |zero=>rw[(c0j h).2];exact⟨Nat.zero_le _,a0u⟩
 |succ k=>
  cases nd with
  |disc a b c=>exact⟨h.1.2.2,h.2.2.2⟩
  |_=>exact⟨Nat.zero_le _,a0u⟩
theorem k0p{d:Nat}{LR:Str->List Nd->List Str}{a:Str}{l:List Nd}(h:∀x∈l,listsOf x=[]):(rowsOf (nodeWith d LR a) l).length≤l.length:=Nat.le_trans (g0w λx hx=>h0s (h x hx)) (Nat.le_of_eq (Nat.one_mul _))
theorem x0f{b n:Nat}{a:Str}:(if b<n then[a++etcS] else[]).length≤1:=by
 by_cases q:b<n
 ·rw[if_pos q];exact Nat.le_refl 1
 ·rw[if_neg q];exact Nat.zero_le _
theorem f0i{g:Nd->List Str}(l:List Nd)(b:Nat):(rowsOf g (l.take b)).length≤(rowsOf g l).length:=by
 have h:=c0k g (l.take b) (l.drop b)
 rw[List.take_append_drop] at h
 rw[h,List.length_append]
 exact Nat.le_add_right ..
theorem f0l{d b k n:Nat}{a:Str}{l:List Nd}(h:(rowsOf (nodeWith d (listR d b k) a) (flatN l)).length≤n):(listR d b (k+1) a l).length≤n+1:=Nat.le_trans (Nat.le_of_eq List.length_append) (Nat.add_le_add (Nat.le_trans (f0i ..) h) x0f)
theorem k0r{d b:Nat}{a:Str}{l:List Nd}(h1:l.length≤2)(h2:∀x∈l,letOk x):∀{k:Nat},(listR d b k a l).length≤3
 |0=>Nat.zero_le _
 |_+1=>f0l (Nat.le_trans (by rw[k0t h2];exact k0p λx hx=>(f0m (h2 x hx)).1) h1)
noncomputable def cnt:Nat->Nat
 |0=>10
 |k+1=>3 * (1+cnt k)+7
theorem t0p(k:Nat):cnt k≤cnt (k+1):=by show _≤3 * (1+cnt k)+7;lia
theorem r0f{k m:Nat}(h:k≤m):cnt k≤cnt m:=by
 induction h with
 |refl=>exact Nat.le_refl _
 |step _ ih=>exact Nat.le_trans ih (t0p _)
theorem d0x{d k c:Nat}{a:Str}{LR:Str->List Nd->List Str}:∀{l:List Nd},(∀x∈l,WfN k x∧(nodeWith d LR a x).length≤c)->(rowsOf (nodeWith d LR a) (flatN l)).length≤(c+2) * l.length
 |[],_=>Nat.zero_le _
 |x::r,h=>by
  have q:=h0k (h x (.head _)).1
  rw[show rowsOf (nodeWith d LR a) (flatN (x::r))=nodeWith d LR a x++(rowsOf (nodeWith d LR a) (repl x)++rowsOf (nodeWith d LR a) (flatN r)) from congrArg (_++·) (c0k ..),List.length_append,List.length_append]
  exact Nat.le_trans (Nat.add_le_add (h x (.head _)).2 (Nat.add_le_add (Nat.le_trans (k0p λy hy=>(f0m (q.2 y hy)).1) q.1) (d0x λy hy=>h y (.tail _ hy)))) (Nat.le_of_eq ((Nat.add_assoc ..).symm.trans (Nat.add_comm ..)))
theorem i0b{d b k:Nat}{a:Str}(H:∀{a:Str}{l:List Nd},l.length≤3->(∀x∈l,WfN k x)->(listR d b (k+1) a l).length≤cnt k){x:Nd}(w:WfN (k+1) x):(nodeWith d (listR d b (k+1)) a x).length≤1+cnt k:=by
 refine Nat.le_trans (e0o (n:=cnt k) ?_) (Nat.le_of_eq (Nat.add_comm ..))
 have one:∀(p:Wd × List Nd),p.2.length≤3->(∀y∈p.2,WfN k y)->(subR (listR d b (k+1)) a [p]).length≤cnt k:=λp q1 q2=>Nat.le_trans (Nat.le_of_eq (congrArg List.length (List.append_nil _))) (H q1 q2)
 cases x with
 |box=>exact one _ w.2.1 w.2.2
 |cell=>exact one _ w.2.1 w.2.2
 |adj=>exact one _ w.1 w.2
 |ins=>exact one _ w.2.1 w.2.2
 |lead s g l=>exact one (wS ".",[l]) (Nat.le_add_left 1 2) (a0m w.2.2.2 a0u)
 |disc p q r=>
  exact Nat.le_trans (Nat.le_of_eq List.length_append) (Nat.le_trans (Nat.add_le_add (k0r (k:=k+1) w.1.1 w.2.1) (Nat.le_trans (Nat.le_of_eq (congrArg List.length (List.append_nil _))) (k0r (k:=k+1) w.1.2.1 w.2.2.1))) (Nat.le_trans (by decide) (r0f (Nat.zero_le k))))
 |_=>exact Nat.zero_le _
theorem l0t{d b:Nat}:∀(k:Nat){a:Str}{l:List Nd},l.length≤3->(∀x∈l,WfN k x)->(listR d b (k+1) a l).length≤cnt k
 |0,_,_,h1,h2=>f0l (n:=9) (Nat.le_trans (d0x λx hx=>⟨h2 x hx,h0s (c0j (h2 x hx)).1⟩) (Nat.mul_le_mul_left 3 h1))
 |k+1,_,_,h1,h2=>f0l (n:=3 * (1+cnt k)+6) (Nat.le_trans (d0x λx hx=>⟨h2 x hx,i0b (l0t k) (h2 x hx)⟩) (Nat.le_trans (Nat.mul_le_mul_left _ h1) (Nat.le_of_eq ((Nat.add_mul ..).trans (congrArg (· +6) (Nat.mul_comm ..))))))
theorem l0r{d b k:Nat}{a:Str}{x:Nd}(w:WfN (k+1) x):(nodeWith d (listR d b (k+1)) a x).length≤1+cnt k:=i0b (l0t k) w
theorem g0r{d b k:Nat}{a:Str}{l:List Nd}(hk:k+1≤6)(h1:l.length≤3)(h2:∀x∈l,WfN (k+1) x):(rowsOf (nodeWith d (listR d b (k+1)) a) (flatN l)).length≤12000:=
 Nat.le_trans (d0x λx hx=>⟨h2 x hx,l0r (h2 x hx)⟩) (Nat.le_trans (Nat.mul_le_mul (Nat.add_le_add_right (Nat.add_le_add_left (r0f (Nat.le_of_succ_le_succ hk)) 1) 2) h1) (by decide))
theorem f0x{d b:Nat}{a:Str}{l:List Nd}(h1:l.length≤3)(h2:∀x∈l,WfN 0 x):(rowsOf (nodeWith d (listR d b 0) a) (flatN l)).length≤12000:=
 Nat.le_trans (d0x λx hx=>⟨h2 x hx,h0s (c0j (h2 x hx)).1⟩) (Nat.le_trans (Nat.mul_le_mul_left 3 h1) (by decide))
theorem m0a{d b k:Nat}{a:Str}{x:Nd}(hk:k+1≤6)(w:WfN (k+1) x):(nodeWith d (listR d b (k+1)) a x).length≤12000:=Nat.le_trans (l0r w) (Nat.le_trans (Nat.add_le_add_left (r0f (Nat.le_of_succ_le_succ hk)) 1) (by decide))
theorem f246:findE 246 fns=some e246:=by kernel_rfl
theorem body246:d246.body=d246.body.take 1++((d246.body.drop 1).take 1++((d246.body.drop 2).take 1++d246.body.drop 3)):=by kernel_rfl
theorem len246(g:Glu)(u:Wd):Nat.ble [V.abs (.glu g),.str u].length e246.D.names.length=true∧Nat.ble e246.dxs.length e246.D.names.length=true∧Nat.ble e246.D.names.length ([V.abs (.glu g),.str u].length+e246.dxs.length)=true:=⟨by kernel_rfl,by kernel_rfl,by kernel_rfl⟩
noncomputable abbrev R246:RcS:=evS (lvl ecT fns mks ov3 80 6) [] d246.sc 80
noncomputable def glA(U:Str)(g:Glu):Vars:=[("self",.abs (.glu g)),("unit",.str [.h U 2])]
theorem vars246(U:Str)(g:Glu):varsOf d246 [.abs (.glu g),.str [.h U 2]] e246.dxs=glA U g:=by kernel_rfl
theorem y0j(U:Str)(g:Glu)(σ:Gs):evSs R246 (d246.body.take 1) ⟨glA U g,none,σ⟩=some (.next,⟨("found",.str (hh g.w++[.h U 2]))::glA U g,none,σ⟩):=by kernel_rfl
noncomputable def plusW(U:Str)(m o:Nat):Wd:=match m with|0=>[]|k+1=>wS " plus "++(hw (Int.ofNat (k+1))++unitW [.h U 2] o)
noncomputable def minusW(U:Str)(m o:Nat):Wd:=match m with|0=>[]|k+1=>wS " minus "++(hw (Int.ofNat (k+1))++unitW [.h U 2] o)
noncomputable def glB(U S:Str)(g:Glu):Vars:=[("found",.str [.h S 100]),("self",.abs (.glu g)),("unit",.str [.h U 2])]
noncomputable def upd(x:Str)(b:Wd)(w:Wd)(vs:Vars):Vars:=match w with
 |[]=>vs
 |w=>(x,.str (b++w))::vs
theorem a1b(U S:Str)(w:Int)(le se:Nat)(σ:Gs):(prd (List.range 5) (List.range 4)).map (λp=>evSs R246 ((d246.body.drop 1).take 1) ⟨glB U S ⟨w,p.1,p.2,le,se⟩,none,σ⟩)=
 mapR (λp=>some (.next,⟨upd "found" [.h S 100] (plusW U p.1 p.2) (glB U S ⟨w,p.1,p.2,le,se⟩),none,σ⟩)) (prd (List.range 5) (List.range 4)):=by kernel_rfl
theorem a1t(U S:Str)(w:Int)(mo fi:Nat)(σ:Gs):(prd (List.range 5) (List.range 4)).map (λp=>evSs R246 ((d246.body.drop 2).take 1) ⟨glB U S ⟨w,mo,fi,p.1,p.2⟩,none,σ⟩)=
 mapR (λp=>some (.next,⟨upd "found" [.h S 100] (minusW U p.1 p.2) (glB U S ⟨w,mo,fi,p.1,p.2⟩),none,σ⟩)) (prd (List.range 5) (List.range 4)):=by kernel_rfl
theorem b1d(U S:Str)(g:Glu)(σ:Gs):evSs R246 (d246.body.drop 3) ⟨glB U S g,none,σ⟩=some (.ret (.str [.h S 100]),⟨glB U S g,none,σ⟩):=by kernel_rfl
theorem j0c(U:Str):allB (λp:Nat × Nat=>andB (Nat.ble (wlen (plusW U p.1 p.2)) 40) (Nat.ble (wlen (minusW U p.1 p.2)) 40)) (prd (List.range 5) (List.range 4))=true:=by kernel_rfl
theorem i0w{α:Type}(x:Str)(y:α)(r:List (Str × α)):look x ((x,y)::r)=some y:=by rw[c0f,List.lookup_cons];simp
theorem r0x{α:Type}{x z:Str}{y:α}{r:List (Str × α)}(h:seq z x=false):look z ((x,y)::r)=look z r:=by
 rw[g0h,h]
theorem i0q:∀{a b:Wd},wok (a++b)->wok b
 |[],_,h=>h
 |_::a,_,h=>i0q (a:=a) h.2
theorem b0a(a b:Str):(a++b).length=a.length+b.length:=by
 show(a.cps++b.cps).size=a.cps.size+b.cps.size
 simp
theorem b0b{X:Cx}{f:FH}{v:Value}{w:Wd}{S:Str}{b:Nat}(h:VR X f v (.str w))(e:wden w=S)(hb:S.length≤b):VR X f v (.str [.h S b]):=by
 subst e
 exact toHole h (a0e _ _).symm ⟨hb,trivial⟩
theorem u0k{x:Str}{b w:Wd}{vs:Vars}(h:look x vs=some (.str b)):∃w',look x (upd x b w vs)=some (.str w')∧wden w'=wden b++wden w∧(wok w'->wok w):=by
 unfold upd
 cases w with
 |nil=>exact⟨b,h,by rw[←a0c,List.append_nil],λx0=>trivial⟩
 |cons c w=>exact⟨b++c::w,i0w ..,a0c ..,i0q⟩
theorem j0m{x z:Str}{b w:Wd}{vs:Vars}(h:seq z x=false):look z (upd x b w vs)=look z vs:=by
 unfold upd
 split
 ·rfl
 ·exact r0x h
section
variable (U S:Str) (g:Glu)
theorem gk1:look "found" (glB U S g)=some (.str [.h S 100]):=by kernel_rfl
theorem gk2:look "self" (glB U S g)=some (.abs (.glu g)):=by kernel_rfl
theorem gk3:look "unit" (glB U S g)=some (.str [.h U 2]):=by kernel_rfl
theorem gk4(w:Wd):look "found" (("found",.str w)::glA U g)=some (.str w):=by kernel_rfl
theorem gk5(w:Wd):look "self" (("found",.str w)::glA U g)=some (.abs (.glu g)):=by kernel_rfl
theorem gk6(w:Wd):look "unit" (("found",.str w)::glA U g)=some (.str [.h U 2]):=by kernel_rfl
theorem gq1:seq "self" "found"=false:=by kernel_rfl
theorem gq2:seq "unit" "found"=false:=by kernel_rfl
end
theorem a1d{X:Cx}{A:Around}{n:Nat}{ov:Ov}{W:List Str}{env:Env}{B:Bs}(hK:IsX X)(ho:OvOK X n ov)(hA:Room X A (n+6))(C:Cz X env B){sc:Scope}(hsc:env.scope=sc):SndS X A env B (evS (lvl ecT fns mks ov 80 6) W sc 80):=by
 rw[←hsc];exact c0m (b0z (a0y hK) 6 ho) hA 80 env B C
noncomputable def gT0(U:Str)(g:Glu):Str:=wden (hh g.w++[.h U 2])
noncomputable def gT1(U:Str)(g:Glu):Str:=gT0 U g++wden (plusW U g.more g.first)
theorem e1b(U:Str)(g:Glu):gT1 U g++wden (minusW U g.less g.second)=gtxtS [.h U 2] g:=by
 obtain⟨w,mo,fi,le,se⟩:=g
 show wden (hh w++[.h U 2])++wden (plusW U mo fi)++wden (minusW U le se)=_
 rw[←a0c,←a0c,List.append_assoc,List.append_assoc]
 unfold gtxtS gtxt plusW minusW
 cases mo<;>cases le<;>rfl
theorem s0j{a b:Nat}(h1:a<5)(h2:b<4):(a,b)∈prd (List.range 5) (List.range 4):=a0f (List.mem_range.mpr h1) (List.mem_range.mpr h2)
theorem e1o{g:Glu}(hg:gluOk g)(U S:Str)(σ:Gs):evSs R246 ((d246.body.drop 1).take 1) ⟨glB U S g,none,σ⟩=some (.next,⟨upd "found" [.h S 100] (plusW U g.more g.first) (glB U S g),none,σ⟩):=
 a0a (a1b U S g.w g.less g.second σ) _ (s0j hg.1 hg.2.1)
theorem d1n{g:Glu}(hg:gluOk g)(U S:Str)(σ:Gs):evSs R246 ((d246.body.drop 2).take 1) ⟨glB U S g,none,σ⟩=some (.next,⟨upd "found" [.h S 100] (minusW U g.less g.second) (glB U S g),none,σ⟩):=
 a0a (a1t U S g.w g.more g.first σ) _ (s0j hg.2.2.1 hg.2.2.2)
section
variable {X:Cx} {env:Env} {B:Bs} {f:FH} {h:Heap} {m cm:Str->Option Value} {U:Str} {g:Glu}
theorem u0d(R:Rel X env B f h (("found",.str (hh g.w++[.h U 2]))::glA U g) none m cm):(gT0 U g).length≤18∧Rel X env B f h (glB U (gT0 U g) g) none m cm:=by
 obtain⟨v0,_,hv0⟩:=R.vars _ _ (gk4 U g _)
 exact⟨a0s (d0o hv0),R.weakL (.cons (gk4 U g _) (λX f v h=>e0m h (by show wlen (hh g.w++[.h U 2])≤100;rw[b0d];show 16+0+(2+0)≤100;decide)) (.same (gk5 U g _) (.same (gk6 U g _) .nil)))⟩
theorem p0v{S0:Str}{pw:Wd}{b:Nat}(hb:S0.length≤b)(hp:Nat.ble (wlen pw) 40=true)(hb2:b+40≤100)(R:Rel X env B f h (upd "found" [.h S0 100] pw (glB U S0 g)) none m cm):(S0++wden pw).length≤b+40∧Rel X env B f h (glB U (S0++wden pw) g) none m cm:=by
 obtain⟨w',k1,k2,k3⟩:=u0k (w:=pw) (gk1 U S0 g)
 obtain⟨v,_,hv⟩:=R.vars _ _ k1
 have hlen:(S0++wden pw).length≤b+40:=by rw[b0a];exact Nat.add_le_add hb (Nat.le_trans (a0s (k3 (d0o hv))) (Nat.le_of_ble_eq_true hp))
 exact⟨hlen,R.weakL (.cons k1 (λX f v h=>b0b h (by rw[k2,a0e]) (Nat.le_trans hlen hb2)) (.same ((j0m gq1).trans (gk2 ..)) (.same ((j0m gq2).trans (gk3 ..)) .nil)))⟩
end
theorem glText{X:Cx}(hK:IsX X){g:Glu}{U:Str}(hg:gluOk g)(σ:Gs)(hl:(gtxtS [.h U 2] g).length≤200):FnV X 22 (.ref 246) [.abs (.glu g),.str [.h U 2]] σ (.str [.h (gtxtS [.h U 2] g) 200]) σ:=by
 refine d0i (n:=21) (fl:=.ret (.str [.h (gtxtS [.h U 2] g) 200])) (st':=⟨glB U (gtxtS [.h U 2] g) g,none,σ⟩) hK f246 (len246 g [.h U 2]).1 (len246 g [.h U 2]).2.1 (len246 g [.h U 2]).2.2 λA env B f s m cm hA hsc C R S=> ?_
 have HS:SndS X A env B R246:=a1d hK (f0f hK) hA C hsc
 show TrS X A env B (execs d246.body env) _ _ _ _ _
 rw[body246]
 rw[show e246.D=d246 from rfl,vars246] at R
 refine TrS.ofSt (st₂:=⟨glA U g,none,σ⟩) ?_
 refine a0w C HS _ _ _ f s m cm (y0j U g σ) R S λf1 h1 t1 m1 cm1 le1 R1 S1=> ?_
 have q:=u0d R1
 refine TrS.ofSt (st₂:=⟨glB U (gT0 U g) g,none,σ⟩) ?_
 refine a0w C HS _ _ _ f1 _ m1 cm1 (e1o hg U (gT0 U g) σ) q.2 S1 λf2 h2 t2 m2 cm2 le2 R2 S2=> ?_
 have q:=p0v q.1 (e0j (a0o (j0c U) _ (s0j hg.1 hg.2.1))).1 (by decide) R2
 refine TrS.ofSt (st₂:=⟨glB U (gT1 U g) g,none,σ⟩) ?_
 refine a0w C HS _ _ _ f2 _ m2 cm2 (d1n hg U (gT1 U g) σ) q.2 S2 λf3 h3 t3 m3 cm3 le3 R3 S3=> ?_
 have q:Rel X env B f3 h3 (glB U (gT1 U g++wden (minusW U g.less g.second)) g) none m3 cm3:=(p0v q.1 (e0j (a0o (j0c U) _ (s0j hg.2.2.1 hg.2.2.2))).2 (by decide) R3).2
 rw[e1b] at q
 exact TrS.ofSt (TrS.res (c0a C HS _ _ _ _ f3 {s with heap:=h3,toks:=t3} m3 cm3 (b1d U (gtxtS [.h U 2] g) g σ) q S3) λf v h=>b0b h (a0e _ _) hl)
theorem w0u{X:Cx}(hK:IsX X){g:Glu}{u u':Wd}(σ:Gs)(hu:wcps u=wcps u')(hl2:(wcps u').length≤2)(hlen:(gluOk g∧(gtxtS [] g).length≤200∧(gtxtS (wS "mu") g).length≤200)->(gtxtS u' g).length≤200):FnV X 22 (.ref 246) [.abs (.glu g),.str u] σ (.str [.h (gtxtS u' g) 200]) σ:=
 ⟨fnCW hK f246,λA f s vs hA S hv=>by
  cases hv with
  |cons g1 hv=>
  cases hv with
  |cons g2 hv=>
  cases hv
  have k:=g1.inv.1
  have hU:(wden u).length≤2:=by show(wcps u).toArray.size≤2;rw[List.size_toArray,hu];exact hl2
  have hden:gtxtS [.h (wden u) 2] g=gtxtS u' g:=e0z (by show(wden u).cps.toList++[]=_;rw[List.append_nil,a0i,hu]) g
  have F:=glText hK (U:=wden u) k.2 σ (by rw[hden];exact hlen ⟨k.2,k.1⟩)
  rw[hden] at F
  exact F.2 A f s _ hA S (.two g1 (toHole g2 (a0e _ _).symm ⟨hU,trivial⟩))⟩
noncomputable def ovGlP:∀g xs σ,OvR IsX 22 g xs σ:=λg xs σ=>match g,xs with
 | .ref a,[.abs (.glu g),.str u]=>.at 246 λha=>.onS (wlit u) λl hl=>.onF (leq l []) (λh2=>.ok (.str [.h (gtxtS [] g) 200]) σ λX hK=>.re ha (w0u hK σ (by rw[a0x hl,(b0r _ _).mp h2];rfl) (by decide) λk=>k.2.1)) λx0=>
  .onT (leq l [109,117]) λh2=>.ok (.str [.h (gtxtS (wS "mu") g) 200]) σ λX hK=>.re ha (w0u hK σ (by rw[a0x hl,(b0r _ _).mp h2];kernel_rfl) (by decide+kernel) λk=>k.2.2)
 |_,_=>.no
noncomputable def ovGl:Ov:=ovAt [246] (ovOf ovGlP)
theorem b1b{X:Cx}(hK:IsX X):OvOK X 22 ovGl:=(b0c hK).on
noncomputable def getN:List (Str × Int)->List Nat->Int->Int
 |[],_,d=>d
 |p::r,l,d=>match leq l p.1.cps.toList with
  |true=>p.2
  |false=>getN r l d
section
variable {X:Cx} {A:Around} {f f':FH} {s:Shared} {h h':Heap} {σ σ':Gs} {xs:List V} {y:V} {n:Nat} {a:Addr}
theorem St.gMut(S:St X f σ h)(ga:X.G a)(hs:Heap.SameBut a h h')(I:Inv X σ' h'):St X f σ' h'∧Kp X f h f h':=by
 have ne:∀{b},¬X.G b->b≠a:=λ{b} g q=>g (by rw[q];exact ga)
 refine⟨⟨S.base,λb o e=> ?_,I,S.off,?_⟩,λb o e g=>(hs.2 b (ne g)).trans e,FH.le.refl f,λx0 x0 e=>.inl e⟩
 ·exact(hs.2 b (λq=>by rw[q,S.off a ga] at e;cases e)).trans (S.isIn _ _ e)
 ·refine S.nolim.sameBut hs ?_
  obtain⟨j,hj,rfl⟩:=ga
  exact(I.gs j hj).symm
theorem StrVals.len{vs:List Value}{T:List Str}(h:StrVals vs T):vs.length=T.length:=by
 induction h with
 |nil=>rfl
 |cons _ _ _ ih=>exact congrArg Nat.succ ih
theorem StrVals.snoc(x:Str)(t:Tok){vs:List Value}{T:List Str}(h:StrVals vs T):StrVals (vs++[Value.str x t]) (T++[x]):=by
 induction h with
 |nil=>exact .cons _ _ .nil
 |cons _ _ _ ih=>exact .cons _ _ ih
theorem i0a{D:List (Str × Int)}{T:List Str}{md:Nat}{nb:Bool}(h:namesOf md nb=some (D,T)):T.length≤2:=by
 unfold namesOf at h
 split at h<;>cases h
 ·cases nb<;>decide
 ·decide
 ·decide
 ·decide
theorem y0d{k:Str}{d:Int}{t:Tok}{kvs:List (Str × Value)}{D:List (Str × Int)}(h:IntVals kvs D):∃u,(valueAt kvs k).getD (.int d t)= .int (getN D k.cps.toList d) u:=by
 induction h with
 |nil=>exact⟨t,rfl⟩
 |cons x i u r ih=>
  unfold getN valueAt
  dsimp only
  cases q:leq k.cps.toList x.cps.toList with
  |true=>
   have e:=(a0h _ _).mp q
   subst e
   rw[List.find?_cons_of_pos (by simp)]
   exact⟨u,rfl⟩
  |false=>
   have e:x≠k:=λe=>by
    have:=(a0h k x).mpr e.symm
    unfold seq at this
    rw[q] at this;cases this
   rw[List.find?_cons_of_neg (by simpa using e)]
   exact ih
theorem n0x{σ:Gs}{D:List (Str × Int)}{T:List Str}(hn:namesOf σ.md σ.nb=some (D,T)):FnV X 0 (.builtin "len") [.gl 2] σ (.int (Int.ofNat T.length)) σ:=⟨a0l,λA f s vs hA S hv Q E hQ=>by
 cases hv with
 |cons hV hv=>
 cases hv
 cases hV using VR.eGl with
 |gl _=>
 obtain⟨ap,_,vs,m,t1,t2⟩:=S.inv.names D T hn
 have hl:vs.toArray.size=T.length:=by rw[List.size_toArray,t2.len]
 refine call_len_list ⟨_,t1,rfl,_,rfl⟩ (by rw[hl];have:=i0a hn;lia) ?_
 rw[hl];exact here S hQ (.int _ _)⟩
theorem q0m{σ:Gs}{D:List (Str × Int)}{T:List Str}{w:Wd}{l:List Nat}{d:Int}(hn:namesOf σ.md σ.nb=some (D,T))(hl:wlit w=some l):FnV X 0 (.builtin "dict.get") [.gl 1,.str w,.int d] σ (.int (getN D l d)) σ:=⟨a0l,λA f s vs hA S hv Q E hQ=>by
 cases hv with
 |cons g1 hv=>
 cases hv with
 |cons g2 hv=>
 cases hv with
 |cons g3 hv=>
 cases hv
 cases g1 using VR.eGl with
 |gl _=>
 cases g2 using VR.eStr with
 |str t ho=>
 cases g3 using VR.eInt with
 |int t'=>
 obtain⟨ap,⟨kvs,d1,d2,d3⟩,_⟩:=S.inv.names D T hn
 refine call_meetsIn F.slot_dict_get d1.typeIs F.entry_dict_get (F.args_dict_get_3 _ _ _) (meets_dict_get_default (strKind X.P X.w) (k:=wden w) (X.g 1) (by show((wden w:Str)==wden w)=true;exact beq_self_eq_true _) d2 _) ⟨_,d1.mapOf,?_⟩
 obtain⟨u,hu⟩:=y0d (k:=wden w) (d:=d) (t:=t') d3
 rw[hu,a0i,a0x hl]
 exact here S hQ (.int _ _)⟩
theorem j0f{σ σ':Gs}{w:Wd}{D:List (Str × Int)}{T:List Str}(hn:namesOf σ.md σ.nb=some (D,T))(e1:σ'.ds=σ.ds)(e2:σ'.e=σ.e)(hn':namesOf σ'.md σ'.nb=some (D,T++[wden w])):FnV X 0 (.builtin "list.append") [.gl 2,.str w] σ .none σ':=⟨a0l,λA f s vs hA S hv Q E hQ=>by
 cases hv with
 |cons g1 hv=>
 cases hv with
 |cons g2 hv=>
 cases hv
 cases g1 using VR.eGl with
 |gl _=>
 cases g2 using VR.eStr with
 |str t ho=>
 obtain⟨aa,dd,vs,m,t1,t2⟩:=S.inv.names D T hn
 refine wpAny_list_append_plain (items:=vs.toArray) ⟨_,t1⟩ (λh' hl hs=> ?_) (by rw[List.size_toArray,t2.len,line24];have:=i0a hn;lia)
 obtain⟨n',hl⟩:=hl
 have hl:h'.get? (X.g 2)=some (listOf (vs++[Value.str (wden w) t]).toArray n'):=by rw[hl];simp
 have I:Inv X σ' h':=by
  obtain⟨I1,I2,I3,I4,I5⟩:=S.inv
  obtain⟨kvs,d1,d2,d3⟩:=dd
  obtain⟨p,t',u',q1,q2⟩:=I1
  refine⟨⟨p,t',u',λhn=>d0j (q1 hn) λo e=>(hs.2 _ aa.2.1).trans e,by rw[e1,e2];exact q2⟩,λj hj=> ?_,I3,by rw[e2];exact I4,λD'' T'' hm=> ?_⟩
  ·by_cases q:X.g j=X.g 2
   ·exact⟨_,by rw[q];exact hl⟩
   ·obtain⟨o,e⟩:=I2 j hj
    exact⟨o,(hs.2 _ q).trans e⟩
  ·rw[hn'] at hm;cases hm
   exact⟨aa,⟨kvs,d0m d1 λo e=>(hs.2 _ aa.2.2.1).trans e,d2,d3⟩,_,_,hl,t2.snoc _ _⟩
 have z:=S.gMut (σ':=σ') ⟨2,aa.2.2.2,rfl⟩ hs I
 exact hQ _ _ _ _ z.2 z.1 .none⟩
theorem o0g{w:Wd}{l:List Nat}{t:Str}(hl:wlit w=some l)(h:t.cps.toList=l):wden w=t:=b0k (by rw[a0i,a0x hl,h])
end
noncomputable def appP(w:Wd)(σ:Gs):OvR (λx0=>True) 0 (.builtin "list.append") [.gl 2,.str w] σ:=.onS (wlit w) λl hl=>match σ with
 |⟨ds,e,nb,4⟩=>.onT (leq l [97,98]) λg=>.ok .none ⟨ds,e,true,0⟩ λX x0=>j0f (D:=[("x",0),("ab",1)]) (T:=["x"]) rfl rfl rfl (by rw[o0g hl (t:="ab") (by rw[(b0r _ _).mp g];kernel_rfl)];rfl)
 |⟨ds,e,nb,3⟩=>.onT (leq l [120]) λg=>.ok .none ⟨ds,e,false,0⟩ λX x0=>j0f (D:=[("x",0)]) (T:=[]) rfl rfl rfl (by rw[o0g hl (t:="x") (by rw[(b0r _ _).mp g];kernel_rfl)];rfl)
 |_=>.no
noncomputable def ovGP:∀g xs σ,OvR (λx0=>True) 0 g xs σ:=λg xs σ=>match g,xs with
 | .builtin "len",[.gl 2]=>.onS (namesOf σ.md σ.nb) λp hn=>.ok (.int (Int.ofNat p.2.length)) σ λX x0=>n0x hn
 | .builtin "dict.get",[.gl 1,.str w,.int d]=>.onS (namesOf σ.md σ.nb) λp hn=>.onS (wlit w) λl hl=>.ok (.int (getN p.1 l d)) σ λX x0=>q0m hn hl
 | .builtin "list.append",[.gl 2,.str w]=>appP w σ
 |_,_=>.no
noncomputable def ovG:Ov:=ovOf ovGP
theorem o0x{X:Cx}:OvOK X 0 ovG:=b0c trivial
noncomputable def tyP(T:String)(x:V):Option {_u:Unit // x= .con (.type T)}:=match x with
 | .con (.type U)=>onT (U==T) λh=>some ⟨(),by rw[eq_of_beq h]⟩
 |_=>none
noncomputable def isTysP(l:List V):Option {_u:Unit // ∀(X:Cx)(f:FH)(vs:List Value),VRs X f vs l->vs=[.type "bytes",.type "bytearray",.type "list",.type "tuple"]}:=match l with
 |[a,b,c,d]=>onP (tyP "bytes" a) λx0 h1=>onP (tyP "bytearray" b) λx0 h2=>onP (tyP "list" c) λx0 h3=>onP (tyP "tuple" d) λx0 h4=>some ⟨(),λX f vs h=>by
  subst h1 h2 h3 h4
  cases h with
  |cons h1 h=>
  cases h with
  |cons h2 h=>
  cases h with
  |cons h3 h=>
  cases h with
  |cons h4 h=>
  cases h
  cases h1 using VR.eCon
  cases h2 using VR.eCon
  cases h3 using VR.eCon
  cases h4 using VR.eCon
  rfl⟩
 |_=>none
noncomputable def byteP:(l:List Int)->Option {_u:Unit // ∀n∈l,0≤n∧n<256}
 |[]=>some ⟨(),λn h=>nomatch h⟩
 |i::r=>onT (decide (0≤i)) λh1=>onT (decide (i<256)) λh2=>onP (byteP r) λx0 h=>some ⟨(),λn hn=>(List.mem_cons.mp hn).elim (λq=>q▸⟨of_decide_eq_true h1,of_decide_eq_true h2⟩) (h n)⟩
noncomputable def toNats:List Int->List Nat
 |[]=>[]
 |i::r=>i.toNat::toNats r
section
variable {X:Cx} {A:Around} {f f':FH} {s:Shared} {h h':Heap} {σ σ':Gs} {xs:List V} {y:V} {n:Nat} {a:Addr}
theorem e0p:∀{ns:List Int},(∀n∈ns,0≤n∧n<256)->(byteArr ns).toList.map UInt8.toNat=toNats ns
 |[],_=>rfl
 |i::r,h=>by
  have ih:=e0p (ns:=r) λn hn=>h n (.tail _ hn)
  unfold byteArr at ih ⊢
  simp only [List.map_cons,List.toList_toArray] at ih ⊢
  show _=i.toNat::toNats r
  rw[ih]
  congr 1
  obtain⟨h1,h2⟩:=h i (.head _)
  rw[Nat.toUInt8,UInt8.toNat_ofNat_of_lt' (by show i.toNat<256;lia)]
end
noncomputable def ovBP:∀g xs σ,OvR (λX=>X.lp=true) 0 g xs σ:=λg xs σ=>match g,xs with
 | .builtin "isinstance",[.lst _ _,.tup l]=>.onP (isTysP l) λx0 ht=>.ok (.bool true) σ λX x0=>⟨a0l,λA f s vs hA S hv Q E hQ=>by
  cases hv with
  |cons g1 hv=>
  cases hv with
  |cons g2 hv=>
  cases hv
  cases g1 using VR.eLst with
  |lst fv rv hn=>
  cases g2 using VR.eTup with
  | @tup b ws fw rw'=>
  cases ht _ _ _ rw'
  refine IsiPair.tupleOfB (Tx:="list") (vs:=[false,false,true,false]) ?_ (S.list fv).typeIs (S.isIn _ _ fw) rfl λtk=>here S hQ (.bool _)
  exact .cons (Answers.of_false_list (by decide+kernel) F.isi_meta_bytes F.sub_list_bytes) (.cons (Answers.of_false_list (by decide+kernel) F.isi_meta_bytearray F.sub_list_bytearray)
   (.cons (Answers.of_true F.isi_meta_list F.sub_list_list) (.cons (Answers.of_false_list (by decide+kernel) F.isi_meta_tuple F.sub_list_tuple) .nil)))⟩
 | .type "bytes",[.lst l _]=>.onS (intsV l) λns hi=>.onT (Nat.ble l.length 1000) λhb=>.onP (byteP ns) λx0 hb2=>.ok (.byt (toNats ns)) σ λX hl=>⟨c0g,λA f s vs hA S hv Q E hQ=>by
  cases hv with
  |cons hV hv=>
  cases hv
  cases hV using VR.eLst with
  | @lst a vs j fv rv hn=>
  refine call_bytes_ints (S.list fv) (toInts rv hi) hb2 (by rw[rv.length];exact Nat.le_trans (Nat.le_of_ble_eq_true hb) (by decide)) (hA.1 hl) λh' t k hk=> ?_
  have K1:Kp X f s.heap f h':=⟨λb o e x0=>hk b o e,FH.le.refl f,λx0 x0 e=>.inl e⟩
  have S1:St X f σ h':=⟨S.base,λb o e=>hk _ _ (S.isIn _ _ e),S.inv.same λb o x0 e=>hk _ _ e,S.off,S.nolim.keeps hk⟩
  exact hQ _ _ _ _ K1 S1 (.byt _ _ _ (e0p hb2))⟩
 |_,_=>.no
noncomputable def ovB:Ov:=ovOf ovBP
theorem e1g{X:Cx}(hl:X.lp=true):OvOK X 0 ovB:=b0c hl
noncomputable def ovX:Ov:=orOv ovGl (orOv ovG ov3)
theorem w0l{X:Cx}(hK:IsX X):OvOK X 22 ovX:=(b1b hK).or ((o0x.ups 22).or ((f0f hK).ups 7))
theorem y0c(d b:Nat)(ds:List Dr)(e:P2):(List.range 20).map (λn=>RUN ovX (.ref 991) [.abs (.show_ d b),tokV n] ⟨ds,e,true,0⟩)=mapR (λn=>some (.str (markW n),⟨ds,e,true,0⟩)) (List.range 20):=by kernel_rfl
noncomputable def sndI:V->Option Int
 | .tup [_,.int c]=>some c
 |_=>none
noncomputable def eqP(v:V)(a b:Int):Option {_u:Unit // v= .tup [.int a,.int b]}:=match v with
 | .tup [.int c,.int d]=>onT (ieq c a) λh=>onT (ieq d b) λk=>some ⟨(),by rw[a0j h,a0j k]⟩
 |_=>none
noncomputable def tokP(y:V):Option {n:Nat // y=tokV n∧n<20}:=match y with
 | .tup [w,p,q,r]=>onS (sndI w) λc _=>onP (eqP w 11 (Int.ofNat (65+(c - 65).toNat))) λ_ h1=>onP (eqP p 0 1) λ_ h2=>onP (eqP q 6 35) λ_ h3=>onP (eqP r 12 49) λ_ h4=>onT (Nat.ble ((c - 65).toNat+1) 20) λh=>some ⟨(c - 65).toNat,by rw[h1,h2,h3,h4];rfl,Nat.le_of_ble_eq_true h⟩
 |_=>none
noncomputable def ovTokP:∀g xs σ,OvR IsX 29 g xs σ:=λg xs σ=>match g,xs with
 | .ref a,[.abs (.show_ d b),y]=>.at 991 λha=>.onP (tokP y) λn hn=>match σ with
  |⟨ds,e,true,0⟩=>.ok (.str (markW n)) ⟨ds,e,true,0⟩ λX hK=>.re ha (by
   rw[hn.1]
   exact a0g hK (w0l hK) _ _ _ _ _ (a0a (y0c d b ds e) n (List.mem_range.mpr hn.2)))
  |_=>.no
 |_,_=>.no
noncomputable def ovTok:Ov:=ovAt [991] (ovOf ovTokP)
theorem u0o{X:Cx}(hK:IsX X):OvOK X 29 ovTok:=(b0c hK).on
noncomputable def setP':List (Nat × Nat × Nat):=prd (List.range 3) (prd (List.range 4) (List.range 5))
theorem z0x(k kk sh:Nat)(a b c:Int)(l:List Nd)(σ:Gs):setP'.map (λp=>RUN ov3 (.ref 937) [.abs (.sub k (.node (.box kk sh p.1 p.2.1 p.2.2 a b c l)))] σ)=mapR (λp=>some (.str (setW p.1 p.2.1 p.2.2),σ)) setP':=by kernel_rfl
theorem a1a:allB (λp:Nat × Nat × Nat=>Nat.ble (wlen (setW p.1 p.2.1 p.2.2)) 100) setP'=true:=by kernel_rfl
theorem f937:findE 937 fns=some e937:=by kernel_rfl
theorem u0w{X:Cx}(hK:IsX X)(k kk sh sg o up:Nat)(x y z:Int)(l:List Nd)(σ:Gs):FnV X 22 (.ref 937) [.abs (.sub k (.node (.box kk sh sg o up x y z l)))] σ (.str [.h (wden (setW sg o up)) 100]) σ:=by
 refine⟨fnCW hK f937,λA f s vs hA S hv=> ?_⟩
 have hw:WfN k (.box kk sh sg o up x y z l):=by
  cases hv with
  |cons hV _=>exact hV.inv.1.2
 cases k with
 |zero=>exact absurd hw id
 |succ k=>
  have b:=hw.1.2.2
  have hm:(sg,o,up)∈setP':=a0f (List.mem_range.mpr b.1) (a0f (List.mem_range.mpr b.2.1) (List.mem_range.mpr b.2.2))
  exact((a0g hK (f0f hK) _ _ _ _ _ (a0a (z0x (k+1) kk sh x y z l σ) _ hm)).res λf v h=>e0m h (Nat.le_of_ble_eq_true (a0o a1a _ hm))).2 A f s _ hA S hv
noncomputable def ovSetP:∀g xs σ,OvR IsX 22 g xs σ:=λg xs σ=>match g,xs with
 | .ref a,[.abs (.sub k (.node (.box kk sh sg o up x y z l)))]=>.at 937 λha=>.ok (.str [.h (wden (setW sg o up)) 100]) σ λX hK=>.re ha (u0w hK k kk sh sg o up x y z l σ)
 |_,_=>.no
noncomputable def ovSet:Ov:=ovAt [937] (ovOf ovSetP)
theorem t0e{X:Cx}(hK:IsX X):OvOK X 22 ovSet:=(b0c hK).on
noncomputable def ovY:Ov:=orOv ovTok (orOv ovSet ovX)
theorem v0x{X:Cx}(hK:IsX X):OvOK X 29 ovY:=(u0o hK).or (((t0e hK).ups 7).or ((w0l hK).ups 7))
section
variable (d b:Nat) (σ:Gs)
noncomputable abbrev NT(d b:Nat)(nd:Nd)(σ:Gs):=RUN ovY (.ref 1024) [.abs (.show_ d b),.abs (.node nd)] σ
noncomputable def ntLet:List Nd:=(prd (List.range 2) (List.range 6)).map (λp=>.char p.1 p.2)++(prd (prd (List.range 2) (List.range 6)) (prd (List.range 2) (List.range 2))).map λp=>.lig p.1.1 p.1.2 p.2.1 p.2.2
theorem w0r:ntLet.map (λnd=>NT d b nd σ)=mapR (λnd=>some (.str (textOf nd),σ)) ntLet:=by kernel_rfl
noncomputable def ntMw:List Nd:=(List.range 20).map .mark++(List.range 20).map .write
theorem nt_mw(ds:List Dr)(e:P2):ntMw.map (λnd=>NT d b nd ⟨ds,e,true,0⟩)=mapR (λnd=>some (.str (textOf nd),⟨ds,e,true,0⟩)) ntMw:=by kernel_rfl
noncomputable def ntSt:List Nd:=(List.range 20).map .spec++((List.range 20).map .oout++(List.range 20).map .cout)
theorem a1s:ntSt.map (λnd=>NT d b nd σ)=mapR (λnd=>some (.str (textOf nd),σ)) ntSt:=by kernel_rfl
noncomputable def ntRule:List Nd:=(prd (List.range 3) (prd (List.range 3) (List.range 3))).map λp=>.rule p.1 p.2.1 p.2.2
theorem a1v:ntRule.map (λnd=>NT d b nd σ)=mapR (λnd=>some (.str (textOf nd),σ)) ntRule:=by kernel_rfl
noncomputable def ntEdge:List Nd:=(prd nums (List.range 2)).map λp=>.edge p.1 p.2
theorem z0e:ntEdge.map (λnd=>NT d b nd σ)=mapR (λnd=>some (.str (textOf nd),σ)) ntEdge:=by kernel_rfl
theorem a1z(g:Glu):(List.range 6).map (λw=>NT d b (.skip w g) σ)=mapR (λw=>some (.str (textOf (.skip w g)),σ)) (List.range 6):=by kernel_rfl
theorem y0e(g:Glu)(l:Nd):(List.range 3).map (λw=>NT d b (.lead w g l) σ)=mapR (λw=>some (.str (textOf (.lead w g l)),σ)) (List.range 3):=by kernel_rfl
theorem z0w(n:Int):(List.range 4).map (λw=>NT d b (.kern n w) σ)=mapR (λw=>some (.str (textOf (.kern n w)),σ)) (List.range 4):=by kernel_rfl
theorem d1e(n:Int):NT d b (.pen n) σ=some (.str (textOf (.pen n)),σ):=by kernel_rfl
theorem j0x(x y:List Nd)(z z':Nd):[[],[z],[z,z']].map (λc=>NT d b (.disc x y c) σ)=mapR (λc=>some (.str (textOf (.disc x y c)),σ)) [[],[z],[z,z']]:=by kernel_rfl
theorem d1x(l:List Nd):NT d b (.adj l) σ=some (.str (textOf (.adj l)),σ):=by kernel_rfl
theorem c1e(u v:Nat)(c:Int)(g:Glu)(l:List Nd):NT d b (.ins u v c g l) σ=some (.str (textOf (.ins u v c g l)),σ):=by kernel_rfl
noncomputable def boxW(kk sh:Nat)(S:Str)(a b c:Int):Wd:=wS "\\"++((match kk with|0=>wS "h"|_=>wS "v")++(wS "box"++(sizesW a b c++(.h S 100::shiftW sh))))
theorem b1j(k sg o up:Nat)(x y z:Int)(l:List Nd):(prd (List.range 2) (List.range 4)).map (λp=>RUN ovY (.ref 1024) [.abs (.show_ d b),.abs (.sub k (.node (.box p.1 p.2 sg o up x y z l)))] σ)=mapR (λp=>some (.str (boxW p.1 p.2 (wden (setW sg o up)) x y z),σ)) (prd (List.range 2) (List.range 4)):=by kernel_rfl
noncomputable def ntCell:List (Nat × Nat × Nat):=prd (List.range 3) (prd (List.range 5) (List.range 4))
theorem x0v(x y z:Int)(l:List Nd):ntCell.map (λp=>NT d b (.cell p.1 p.2.1 p.2.2 x y z l) σ)=mapR (λp=>some (.str (textOf (.cell p.1 p.2.1 p.2.2 x y z l)),σ)) ntCell:=by kernel_rfl
end
noncomputable def ovGT:Ov:=orOv ovG ovT
theorem q0w{X:Cx}(hK:IsX X):OvOK X 1 ovGT:=o0x.up.or (b0y hK)
theorem z0z(ds:List Dr)(e:P2):RUN ovGT (.ref 802) [.abs .names,.str (wS "ab")] ⟨ds,e,false,0⟩=some (.int 1,⟨ds,e,true,0⟩):=by kernel_rfl
theorem x0o(ds:List Dr)(e:P2):RUN ovGT (.ref 802) [.abs .names,.str (wS "ab")] ⟨ds,e,true,0⟩=some (.int 1,⟨ds,e,true,0⟩):=by kernel_rfl
noncomputable def ovMP:∀g xs σ,OvR IsX 8 g xs σ:=λg xs σ=>match g,xs with
 | .ref a,[.abs .names,.str w]=>.at 802 λha=>.onS (wlit w) λl h2=>match σ with
  |⟨ds,e,nb,0⟩=>.onT (leq l [97,98]) λh4=>.ok (.int 1) ⟨ds,e,true,0⟩ λX hK=>.re ha (by
   have arg:∀(f:FH)(vs:List Value),VRs X f vs [.abs .names,.str w]->VRs X f vs [.abs .names,.str (wS "ab")]:=λf vs hv=>by
    cases hv with
    |cons g1 hv=>
    cases hv with
    |cons g2 hv=>
    cases hv
    exact .two g1 (toHole g2 (b0k (by rw[a0i,a0i,a0x h2,(b0r _ _).mp h4];kernel_rfl)) (f0g _))
   cases nb with
   |false=>exact(a0g hK (q0w hK) _ _ _ _ _ (z0z ds e)).arg arg
   |true=>exact(a0g hK (q0w hK) _ _ _ _ _ (x0o ds e)).arg arg)
  |_=>.no
 |_,_=>.no
noncomputable def ovM:Ov:=ovAt [802] (ovOf ovMP)
theorem c1t{X:Cx}(hK:IsX X):OvOK X 8 ovM:=(b0c hK).on
noncomputable def ovD:Ov:=orOv ovM (orOv ovB ov3)
theorem b1u{X:Cx}(hK:IsX X):OvOK X 15 ovD:=((c1t hK).ups 7).or (((e1g hK.lp).ups 15).or (f0f hK))
noncomputable def doneP:List (Nat × Nat):=prd (List.range 5) (List.range 20)
theorem s0f(r:List Dr)(e:P2)(nb:Bool):doneP.map (λp=>RUN ovD (.ref 1301) [.gl 0,.abs .tools] ⟨.v 5 p.1:: .v 20 p.2::r,e,nb,0⟩)=mapR (λp=>some (partV (doneN p.1 p.2),⟨r,e,true,0⟩)) doneP:=by kernel_rfl
theorem s0g:allB (λp:Nat × Nat=>Nat.ble (wlen (textOf (doneN p.1 p.2))) 400) doneP=true:=by kernel_rfl
theorem f1301:findE 1301 fns=some e1301:=by kernel_rfl
noncomputable def selDone:∀d,SelR .done .part dn d
 | .done nd=>.ok nd rfl
 |_=>.no
theorem y0a:∀w n,dn (doneN w n)=true
 |0,_=>rfl
 |1,_=>rfl
 |2,_=>rfl
 |3,_=>rfl
 |_+4,_=>rfl
noncomputable def ovDone:Ov:=drOv 1301 arT (λx0=>w0z) selDone
theorem o0e{X:Cx}(hK:IsX X):OvOK X 22 ovDone:=b0x (fnCW hK f1301) (λx0=>rfl) λnd r e nb l hx=>hx.eDone λw n hw hb x0=>by
  have hm:(w,n)∈doneP:=a0f (List.mem_range.mpr hw) (List.mem_range.mpr (hb.tl.hd (by decide)))
  rw[y0a]
  exact(a0g hK (b1u hK) _ _ _ _ _ (a0a (s0f r e nb) _ hm)).res λf v h=>toPart h (a0o s0g _ hm)
inductive LeS:List V->List V->Prop
 |nil:LeS [] []
 |cons {x y:V} {l k:List V}:Le x y->LeS l k->LeS (x::l) (y::k)
inductive LeD:List (Str × V)->List (Str × V)->Prop
 |nil:LeD [] []
 |cons {s:Str} {x y:V} {l k:List (Str × V)}:Le x y->LeD l k->LeD ((s,x)::l) ((s,y)::k)
theorem LeS.refl:∀l:List V,LeS l l
 |[]=>.nil
 |x::l=>.cons (.refl x) (.refl l)
theorem LeD.refl:∀l:List (Str × V),LeD l l
 |[]=>.nil
 |(s,x)::l=>.cons (.refl x) (.refl l)
theorem LeS.vr{X:Cx}{f:FH}{l k:List V}(h:LeS l k):∀{vs:List Value},VRs X f vs l->VRs X f vs k:=by
 induction h with
 |nil=>exact λh=>h
 |cons a _ ih=>
  intro vs hv
  cases hv with
  |cons h1 h2=>exact .cons (a _ _ _ h1) (ih h2)
theorem LeS.len{l k:List V}(h:LeS l k):l.length=k.length:=by
 induction h with
 |nil=>rfl
 |cons _ _ ih=>exact congrArg Nat.succ ih
theorem LeD.vr{X:Cx}{f:FH}{l k:List (Str × V)}(h:LeD l k):∀{es:List DictEntry},VRd X f es l->VRd X f es k:=by
 induction h with
 |nil=>exact λh=>h
 |cons a _ ih=>
  intro vs hv
  cases hv with
  |cons h1 h2 h3=>exact .cons h1 (a _ _ _ h2) (ih h3)
theorem Le.tup{l k:List V}(h:LeS l k):Le (.tup l) (.tup k):=λX f v hv=>by
 cases hv using VR.eTup with
 |tup a b=>exact .tup a (h.vr b)
theorem LeS.app{k1 k2:List V}(h:LeS k1 k2):∀l1:List V,LeS (l1++k1) (l1++k2)
 |[]=>h
 |_::l1=>.cons (.refl _) (LeS.app h l1)
theorem Le.lst{l k:List V}{n:Nat}(h:LeS l k):Le (.lst l n) (.lst k n):=λX f v hv=>by
 cases hv using VR.eLst with
 |lst a b c=>exact .lst a (h.vr b) (by rw[←h.len];exact c)
theorem Le.obj{C:Addr}{l k:List (Str × V)}(h:LeD l k):Le (.obj C l) (.obj C k):=λX f v hv=>by
 cases hv using VR.eObj with
 |obj a b c=>exact .obj a b (h.vr c)
theorem Le.abs{d:Dom}(h:dok d):Le (den d) (.abs d):=λX f v hv=>.abs h hv
theorem Le.node(nd:Nd):Le (.abs (.lett nd)) (.abs (.node nd)):=λX f v hv=>by
 cases hv using VR.eAbs with
 |abs k h=>exact .abs k.2 h
theorem Le.part(nd:Nd):Le (.abs (.lpart nd)) (.abs (.part nd)):=λX f v hv=>by
 cases hv using VR.eAbs with
 |abs k h=>exact .abs k.2 h
theorem LeS.map{α:Type}{g k:α->V}(h:∀a,Le (g a) (k a)):∀l:List α,LeS (l.map g) (l.map k)
 |[]=>.nil
 |a::l=>.cons (h a) (.map h l)
noncomputable def lettL(l:List Nd):V:=.lst (l.map λnd=>.abs (.lett nd)) l.length
noncomputable def lpL(l:List Nd):V:=.lst (l.map λnd=>.abs (.lpart nd)) l.length
theorem Le.items{l:List Nd}(h:l.length≤100):Le (lettL l) (.abs (.items l)):=(Le.lst (LeS.map Le.node l)).trans (Le.abs (d:=.items l) h)
theorem Le.parts{l:List Nd}(h:l.length≤100):Le (lpL l) (.abs (.parts l)):=(Le.lst (LeS.map Le.part l)).trans (Le.abs (d:=.parts l) h)
theorem Inv.vlt{X:Cx}{h:Heap}{k d:Nat}{r:List Dr}{e:P2}{nb:Bool}{md:Nat}(I:Inv X ⟨.v k d::r,e,nb,md⟩ h)(hk:0<k):d<k:=by
 obtain⟨⟨p,t,u,hl,hf⟩,_⟩:=I
 cases hf with
 |v hf=>exact c0e _ hk
 |exp hx _ _=>cases hx
theorem p0c{X:Cx}(hK:IsX X){k d:Nat}{r:List Dr}{e:P2}{nb:Bool}{md:Nat}{y:V}(h1:1≤k)(h2:k<1000)(hy:d<k->∀t f,VR X f (.int (Int.ofNat d) t) y):FnV X 1 (.ref 1251) [.gl 0,.int (Int.ofNat k)] ⟨.v k d::r,e,nb,md⟩ y ⟨r,e,nb,md⟩:=by
 have F:=n0y (n:=0) (d:=d) (r:=r) (e:=e) (nb:=nb) (md:=md) hK h1 h2
 exact⟨F.1,λA f s vs hA S hv=>(F.res λf v h=>by
  cases h using VR.eInt with
  |int t=>exact hy (S.inv.vlt h1) t f).2 A f s vs hA S hv⟩
noncomputable def ovOP:∀g xs σ,OvR IsX 1 g xs σ:=λg xs σ=>match g,xs,σ with
 | .ref a,[.gl 0,.int i],⟨.v k d::r,e,nb,md⟩=>.at 1251 λha=>.onT (ieq i (Int.ofNat k)) λhi=>.onF (Nat.beq k 200) (λhk=>.ok (.oct d) ⟨r,e,nb,md⟩ λX hK=>.re ha (by
   cases a0j hi
   cases Nat.eq_of_beq_eq_true hk
   exact p0c hK (by decide) (by decide) λhd t f=>.oct _ _ hd)) λx0=>.onT (Nat.beq k 9) λhk=>.ok (.num (Int.ofNat d)) ⟨r,e,nb,md⟩ λX hK=>.re ha (by
   cases a0j hi
   cases Nat.eq_of_beq_eq_true hk
   exact p0c hK (by decide) (by decide) λhd t f=>.num _ _ (by show -9≤(d:Int);lia) (by show(d:Int)≤20;lia))
 |_,_,_=>.no
noncomputable def ovO:Ov:=ovAt [1251] (ovOf ovOP)
theorem c1s{X:Cx}(hK:IsX X):OvOK X 1 ovO:=(b0c hK).on
noncomputable def ovP:Ov:=orOv ovO (orOv ov6 (orOv (ovDone) (orOv ovF ov3)))
theorem d0t{X:Cx}(hK:IsX X):OvOK X 29 ovP:=((c1s hK).ups 28).or ((e1q hK).or (((o0e hK).ups 7).or (((w0e hK).ups 7).or ((f0f hK).ups 14))))
noncomputable def selBox(k:Nat):∀d,SelR (.box k) .part dn d
 | .box j nd=>.onT (Nat.beq j k) λh=>.ok nd (by rw[Nat.eq_of_beq_eq_true h])
 |_=>.no
noncomputable def selCell(k:Nat):∀d,SelR (.cell k) .part dn d
 | .cell j nd=>.onT (Nat.beq j k) λh=>.ok nd (by rw[Nat.eq_of_beq_eq_true h])
 |_=>.no
noncomputable def selSkip(k:Nat):∀d,SelR (.skip k) .part dn d
 | .skip j nd=>.onT (Nat.beq j k) λh=>.ok nd (by rw[Nat.eq_of_beq_eq_true h])
 |_=>.no
noncomputable def selPart(k:Nat):∀d,SelR (.part k) .part dn d
 | .part j nd=>.onT (Nat.beq j k) λh=>.ok nd (by rw[Nat.eq_of_beq_eq_true h])
 |_=>.no
noncomputable def selList(k m:Nat):∀d,SelR (.list k m) .parts dnL d
 | .list j i l=>.onT (Nat.beq j k) λh=>.onT (Nat.beq i m) λh'=>.ok l (by rw[Nat.eq_of_beq_eq_true h,Nat.eq_of_beq_eq_true h'])
 |_=>.no
noncomputable def ovBoxC(k:Nat):Ov:=drOv 1282 (arT1 (Int.ofNat k)) (λ_=>h0c) (selBox k)
noncomputable def ovCellC(k:Nat):Ov:=drOv 1287 (arT1 (Int.ofNat k)) (λ_=>h0c) (selCell k)
noncomputable def ovSkipC(k:Nat):Ov:=drOv 1308 (arT1 (Int.ofNat k)) (λ_=>h0c) (selSkip k)
noncomputable def ovPartC(k:Nat):Ov:=drOv 1325 (arT1 (Int.ofNat k)) (λ_=>h0c) (selPart k)
noncomputable def ovListC(k m:Nat):Ov:=drOv 1330 (arT2 (Int.ofNat k) (Int.ofNat m)) (λ_=>z0m) (selList k m)
noncomputable def leadV(s:Nat)(g:Glu)(l:Nd):V:=.tup [objOf (.lead s g l),.str (textOf (.lead s g l)),.lst [.tup [.str (wS "."),.lst [.abs (.part l)] 1]] 1,.lst [] 0]
theorem v0h(k:Nat)(g:Glu)(r:List Dr)(e:P2)(nb:Bool):(List.range 6).map (λw=>RUN ovP (.ref 1308) [.gl 0,.abs .tools,.int (Int.ofNat k)] ⟨.v 8 w:: .flow (skipUnit w) g::r,e,nb,0⟩)=mapR (λw=>some (partV (.skip w g),⟨r,e,nb,0⟩)) (List.range 6):=by kernel_rfl
theorem n0f(k a b c:Nat)(g:Glu)(r:List Dr)(e:P2)(nb:Bool):(List.range 3).map (λs=>RUN ovP (.ref 1308) [.gl 0,.abs .tools,.int (Int.ofNat k)] ⟨.v 8 7:: .flow [] g:: .v 3 s:: .rule (.rule a b c)::r,e,nb,0⟩)=mapR (λs=>some (leadV s g (.rule a b c),⟨r,e,nb,0⟩)) (List.range 3):=by kernel_rfl
noncomputable def LeadRun(k:Nat):Prop:=∀(sh sg o up:Nat)(x y z:Int)(l:List Nd)(g:Glu)(r:List Dr)(e:P2)(nb:Bool),(prd (List.range 3) (List.range 2)).map (λp=>RUN (orOv (ovBoxC k) ovP) (.ref 1308) [.gl 0,.abs .tools,.int (Int.ofNat (k+1))] ⟨.v 8 6:: .flow [] g:: .v 3 p.1:: .box k (.box p.2 sh sg o up x y z l)::r,e,nb,0⟩)=mapR (λp=>some (leadV p.1 g (.box p.2 sh sg o up x y z l),⟨r,e,orB nb (dnL l),0⟩)) (prd (List.range 3) (List.range 2))
theorem m0n:LeadRun 0:=λsh sg o up x y z l g r e nb=>by kernel_rfl
theorem m0e:LeadRun 1:=λsh sg o up x y z l g r e nb=>by kernel_rfl
theorem v0k(g:Glu):allB (λw=>Nat.ble (wlen (textOf (.skip w g))) 400) (List.range 6)=true:=by kernel_rfl
theorem l0j(g:Glu)(l:Nd):allB (λs=>Nat.ble (wlen (textOf (.lead s g l))) 400) (List.range 3)=true:=by kernel_rfl
noncomputable def nbF(nb:Bool):List Nd->Bool
 |[]=>nb
 |a::r=>nbF (orB nb (dn a)) r
theorem i0g:∀(nb:Bool)(l:List Nd),nbF nb l=orB nb (dnL l)
 |nb,[]=>by unfold nbF dnL;rfl
 |nb,a::r=>by
  unfold nbF dnL
  rw[i0g (orB nb (dn a)) r,e0d]
noncomputable def ls3(a b c:Nd):List (List Nd):=[[],[a],[a,b],[a,b,c]]
theorem p0m:∀{l:List Nd},l.length<4->∃a b c,l∈ls3 a b c
 |[],_=>⟨.mark 0,.mark 0,.mark 0,.head _⟩
 |[a],_=>⟨a,.mark 0,.mark 0,.tail _ (.head _)⟩
 |[a,b],_=>⟨a,b,.mark 0,.tail _ (.tail _ (.head _))⟩
 |[a,b,c],_=>⟨a,b,c,.tail _ (.tail _ (.tail _ (.head _)))⟩
 |_::_::_::_::l,h=>by simp at h;lia
noncomputable def partsL(l:List Nd):V:=.lst (l.map λnd=>.abs (.part nd)) l.length
noncomputable def ListRun(k m:Nat):Prop:=∀(a b c:Nd)(r:List Dr)(e:P2)(nb:Bool),(ls3 a b c).map (λl=>RUN (orOv (ovPartC k) ovP) (.ref 1330) [.gl 0,.abs .tools,.int (Int.ofNat k),.int (Int.ofNat m)] ⟨.v (m+1) l.length::l.map (.part k)++r,e,nb,0⟩)=mapR (λl=>some (partsL l,⟨r,e,nbF nb l,0⟩)) (ls3 a b c)
theorem m0x:ListRun 0 2:=λa b c r e nb=>by kernel_rfl
theorem m0k:ListRun 0 3:=λa b c r e nb=>by kernel_rfl
theorem m0q:ListRun 1 2:=λa b c r e nb=>by kernel_rfl
theorem m0z:ListRun 1 3:=λa b c r e nb=>by kernel_rfl
theorem m0v:ListRun 2 3:=λa b c r e nb=>by kernel_rfl
noncomputable def lt(b:Bool)(i c l r:Nat):Nd:=match b with
 |false=>.char i c
 |true=>.lig i c l r
theorem lt_of{nd:Nd}(h:isLetter nd=true):∃b i c l r,nd=lt b i c l r:=by
 cases nd with
 |char i c=>exact⟨false,i,c,0,0,rfl⟩
 |lig i c l r=>exact⟨true,i,c,l,r,rfl⟩
 |_=>cases h
theorem cs0(n:Nat)(σ:Gs):RUN ovT (.ref 354) [.lst [] n] σ=some (.lst [] n,σ):=by kernel_rfl
theorem cs1(i c l r:Nat)(n:Nat)(σ:Gs):[false,true].map (λb=>RUN ovT (.ref 354) [.lst [.abs (.lett (lt b i c l r))] n] σ)=mapR (λb=>some (.lst [.abs (.lett (lt b i c l r))] n,σ)) [false,true]:=by kernel_rfl
theorem cs2(i c l r i' c' l' r':Nat)(n:Nat)(σ:Gs):(prd [false,true] [false,true]).map (λb=>RUN ovT (.ref 354) [.lst [.abs (.lett (lt b.1 i c l r)),.abs (.lett (lt b.2 i' c' l' r'))] n] σ)=mapR (λb=>some (.lst [.abs (.lett (lt b.1 i c l r)),.abs (.lett (lt b.2 i' c' l' r'))] n,σ)) (prd [false,true] [false,true]):=by kernel_rfl
noncomputable def lettP(x:V):Option {nd:Nd // x= .abs (.lett nd)}:=match x with
 | .abs (.lett nd)=>some ⟨nd,rfl⟩
 |_=>none
theorem f354:findE 354 fns=some e354:=by kernel_rfl
theorem h0j(b:Bool):b∈[false,true]:=by cases b<;>simp
theorem j0z{X:Cx}{f:FH}{v:Value}{nd:Nd}(h:VR X f v (.abs (.lett nd))):∃b i c l r,nd=lt b i c l r:=lt_of h.inv.1.1
theorem b1o{X:Cx}(hK:IsX X)(nd:Nd)(n:Nat)(σ:Gs):FnV X 8 (.ref 354) [.lst [.abs (.lett nd)] n] σ (.lst [.abs (.lett nd)] n) σ:=.of1 (fnCW hK f354) λf v h=>by
 refine⟨_,h,?_⟩
 cases h using VR.eLst with
 |lst fv rv hn=>
 cases rv with
 |cons hw rv=>
 obtain⟨b,i,c,l,r,rfl⟩:=j0z hw
 exact a0g hK (b0y hK) _ _ _ _ _ (a0a (cs1 i c l r n σ) b (h0j b))
theorem c1o{X:Cx}(hK:IsX X)(nd nd':Nd)(n:Nat)(σ:Gs):FnV X 8 (.ref 354) [.lst [.abs (.lett nd),.abs (.lett nd')] n] σ (.lst [.abs (.lett nd),.abs (.lett nd')] n) σ:=.of1 (fnCW hK f354) λf v h=>by
 refine⟨_,h,?_⟩
 cases h using VR.eLst with
 |lst fv rv hn=>
 cases rv with
 |cons hw rv=>
 cases rv with
 |cons hw' rv=>
 obtain⟨b,i,c,l,r,rfl⟩:=j0z hw
 obtain⟨b',i',c',l',r',rfl⟩:=j0z hw'
 exact a0g hK (b0y hK) _ _ _ _ _ (a0a (cs2 i c l r i' c' l' r' n σ) (b,b') (a0f (h0j b) (h0j b')))
noncomputable def ovCSP:∀g xs σ,OvR IsX 8 g xs σ:=λg xs σ=>match g,xs with
 | .ref a,[.lst l n]=>.at 354 λha=>match l with
  |[]=>.ok (.lst [] n) σ λX hK=>.re ha (a0g hK (b0y hK) _ _ _ _ _ (cs0 n σ))
  |[x]=>.onP (lettP x) λnd h=>.ok (.lst [x] n) σ λX hK=>.re ha (by rw[h];exact b1o hK nd n σ)
  |[x,y]=>.onP (lettP x) λnd h=>.onP (lettP y) λnd' h'=>.ok (.lst [x,y] n) σ λX hK=>.re ha (by rw[h,h'];exact c1o hK nd nd' n σ)
  |_=>.no
 |_,_=>.no
noncomputable def ovCS:Ov:=ovAt [354] (ovOf ovCSP)
theorem a1e{X:Cx}(hK:IsX X):OvOK X 8 ovCS:=(b0c hK).on
noncomputable def ovQ:Ov:=orOv ovCS ovP
theorem e0r{X:Cx}(hK:IsX X):OvOK X 29 ovQ:=((a1e hK).ups 21).or (d0t hK)
noncomputable def PartRun(k:Nat)(ov:Ov)(ps:Nd->List (Nat × Dr))(y:Nd->V):Prop:=∀(a:Nd)(r:List Dr)(e:P2)(nb:Bool),(ps a).map (λp=>RUN ov (.ref 1325) [.gl 0,.abs .tools,.int (Int.ofNat k)] ⟨.v 16 p.1::p.2::r,e,nb,0⟩)=mapR (λp=>some (y a,⟨r,e,orB nb (dn a),0⟩)) (ps a)
noncomputable def psL0(a:Nd):List (Nat × Dr):=(List.range 4).map λw=>(w,.letter a)
noncomputable def psL(a:Nd):List (Nat × Dr):=[(3,.letter a)]
noncomputable def psS(a:Nd):List (Nat × Dr):=[(4,.small 0 a),(5,.small 1 a),(6,.rule a),(7,.done a),(8,.small 2 a)]
noncomputable def psB(k:Nat)(a:Nd):List (Nat × Dr):=[(0,.box k a),(1,.box k a),(2,.box k a),(15,.cell k a)]++[9,10,11].map λw=>(w,.skip (k+1) a)
noncomputable def ovN'(k:Nat):Ov:=orOv (ovBoxC k) (orOv (ovCellC k) (orOv (ovSkipC (k+1)) (orOv (ovListC k 2) ovQ)))
theorem z0y:PartRun 0 ovQ psL0 λa=>.abs (.lpart a):=λa r e nb=>by kernel_rfl
theorem y0o:PartRun 1 ovQ psL λa=>.abs (.lpart a):=λa r e nb=>by kernel_rfl
theorem y0m:PartRun 2 ovQ psL λa=>.abs (.lpart a):=λa r e nb=>by kernel_rfl
theorem z0c:PartRun 0 ovQ psS λa=>.abs (.part a):=λa r e nb=>by kernel_rfl
theorem z0s:PartRun 1 ovQ psS λa=>.abs (.part a):=λa r e nb=>by kernel_rfl
theorem x0w:PartRun 2 ovQ psS λa=>.abs (.part a):=λa r e nb=>by kernel_rfl
theorem x0y:PartRun 1 (ovN' 0) (psB 0) λa=>.abs (.part a):=λa r e nb=>by kernel_rfl
theorem y0g:PartRun 2 (ovN' 1) (psB 1) λa=>.abs (.part a):=λa r e nb=>by kernel_rfl
noncomputable def ls2(a b:Nd):List (List Nd):=[[],[a],[a,b]]
theorem j0w:∀{l:List Nd},l.length<3->∃a b,l∈ls2 a b
 |[],_=>⟨.mark 0,.mark 0,.head _⟩
 |[a],_=>⟨a,.mark 0,.tail _ (.head _)⟩
 |[a,b],_=>⟨a,b,.tail _ (.tail _ (.head _))⟩
 |_::_::_::l,h=>by simp at h;lia
noncomputable def discV(a b c:List Nd):V:=.tup [.obj 518 [("pre",lettL a),("post",lettL b),("middle",lettL c)],.str (textOf (.disc a b c)),.lst [.tup [.str (wS "."),lpL a],.tup [.str (wS "|"),lpL b]] 2,lpL c]
noncomputable def DiscRun(k:Nat)(ws:List Nat):Prop:=∀(a a' b b' c c':Nd)(r:List Dr)(e:P2)(nb:Bool),(prd ws (prd (ls2 a a') (prd (ls2 b b') (ls2 c c')))).map (λp=>RUN ovQ (.ref 1325) [.gl 0,.abs .tools,.int (Int.ofNat k)] ⟨(.v 16 p.1::(.v 3 p.2.1.length::p.2.1.map .letter++(.v 3 p.2.2.1.length::p.2.2.1.map .letter++(.v 3 p.2.2.2.length::p.2.2.2.map .letter))))++r,e,nb,0⟩)=
 mapR (λp=>some (discV p.2.1 p.2.2.1 p.2.2.2,⟨r,e,nbF (nbF (nbF nb p.2.1) p.2.2.1) p.2.2.2,0⟩)) (prd ws (prd (ls2 a a') (prd (ls2 b b') (ls2 c c'))))
theorem q0l:DiscRun 0 [9,10,11,12]:=λa a' b b' c c' r e nb=>by kernel_rfl
theorem o0b:DiscRun 1 [12]:=λa a' b b' c c' r e nb=>by kernel_rfl
theorem p0j:DiscRun 2 [12]:=λa a' b b' c c' r e nb=>by kernel_rfl
theorem u0u(a a' b b' c c':Nd):allB (λp:List Nd × List Nd × List Nd=>Nat.ble (wlen (textOf (.disc p.1 p.2.1 p.2.2))) 400) (prd (ls2 a a') (prd (ls2 b b') (ls2 c c')))=true:=by kernel_rfl
noncomputable def adjV(it pt:V):V:=.tup [.obj 581 [("items",it)],.str (textOf (.adj [])),.lst [.tup [.str (wS "."),pt]] 1,.lst [] 0]
theorem s0s(r:List Dr)(e:P2)(nb:Bool):RUN ovQ (.ref 1325) [.gl 0,.abs .tools,.int 0] ⟨.v 16 13::r,e,nb,0⟩=some (adjV (.lst [] 0) (.lst [] 0),⟨r,e,nb,0⟩):=by kernel_rfl
noncomputable def AdjRun(k:Nat):Prop:=∀(l:List Nd)(r:List Dr)(e:P2)(nb:Bool),RUN (ovN' k) (.ref 1325) [.gl 0,.abs .tools,.int (Int.ofNat (k+1))] ⟨.v 16 13:: .list k 2 l::r,e,nb,0⟩=some (adjV (.abs (.items l)) (.abs (.parts l)),⟨r,e,orB nb (dnL l),0⟩)
theorem s0a:AdjRun 0:=λl r e nb=>by kernel_rfl
theorem s0k:AdjRun 1:=λl r e nb=>by kernel_rfl
noncomputable def insV(num size:Nat)(cost:Int)(g:Glu)(it pt:V):V:=.tup [.obj 560 [("number",.oct num),("size",.dimn (Int.ofNat size)),("depth",.int 65536),("top",.abs (.glu g)),("cost",.num cost),("items",it)],.str (textOf (.ins num size cost g [])),.lst [.tup [.str (wS "."),pt]] 1,.lst [] 0]
theorem s0d(num size:Nat)(cost:Int)(g:Glu)(r:List Dr)(e:P2)(nb:Bool):[14,15].map (λw=>RUN ovQ (.ref 1325) [.gl 0,.abs .tools,.int 0] ⟨.v 16 w:: .flow [] g:: .v 200 num:: .v 9 size:: .n cost::r,e,nb,0⟩)=mapR (λw=>some (insV num size cost g (.lst [] 0) (.lst [] 0),⟨r,e,nb,0⟩)) [14,15]:=by kernel_rfl
noncomputable def InsRun(k:Nat):Prop:=∀(num size:Nat)(cost:Int)(g:Glu)(l:List Nd)(r:List Dr)(e:P2)(nb:Bool),RUN (ovN' k) (.ref 1325) [.gl 0,.abs .tools,.int (Int.ofNat (k+1))] ⟨.v 16 14:: .list k 2 l:: .flow [] g:: .v 200 num:: .v 9 size:: .n cost::r,e,nb,0⟩=some (insV num size cost g (.abs (.items l)) (.abs (.parts l)),⟨r,e,orB nb (dnL l),0⟩)
theorem s0z:InsRun 0:=λnum size cost g l r e nb=>by kernel_rfl
theorem t0r:InsRun 1:=λnum size cost g l r e nb=>by kernel_rfl
theorem n0i:Nat.ble (wlen (textOf (.adj []))) 400=true:=by kernel_rfl
theorem r0g(num size:Nat)(cost:Int)(g:Glu):Nat.ble (wlen (textOf (.ins num size cost g []))) 400=true:=by kernel_rfl
section
variable {X:Cx} {n m k:Nat} {ov:Ov}
theorem OvOK.at(h:OvOK X n ov)(hm:n≤m):OvOK X m ov:=by
 obtain⟨k,rfl⟩:=Nat.le.dest hm
 exact h.ups k
theorem FnV.at{g:Value}{xs:List V}{σ σ':Gs}{y:V}(h:FnV X n g xs σ y σ')(hm:n≤m):FnV X m g xs σ y σ':=by
 obtain⟨k,rfl⟩:=Nat.le.dest hm
 exact h.ups k
theorem f1308:findE 1308 fns=some e1308:=by kernel_rfl
theorem f1325:findE 1325 fns=some e1325:=by kernel_rfl
theorem f1330:findE 1330 fns=some e1330:=by kernel_rfl
theorem SubE.hd{d:Dr}{l:List Dr}(h:SubE (d::l))(hd:cplx d=true):∃l',Exp d l'∧Bnd l':=h d (.head _) hd
theorem SubE.tl{d:Dr}{l:List Dr}(h:SubE (d::l)):SubE l:=λd hm=>h d (.tail _ hm)
theorem w0s(k sh sg o up:Nat)(a b c:Int)(l:List Nd):dn (.box k sh sg o up a b c l)=dnL l:=rfl
theorem a1f(sp m o:Nat)(a b c:Int)(l:List Nd):dn (.cell sp m o a b c l)=dnL l:=rfl
theorem x0j(s:Nat)(g:Glu)(l:Nd):dn (.lead s g l)=dn l:=rfl
theorem d1l(l:List Nd):dn (.adj l)=dnL l:=rfl
theorem e1a(a b:Nat)(c:Int)(g:Glu)(l:List Nd):dn (.ins a b c g l)=dnL l:=rfl
theorem z0u(a b c:List Nd):dn (.disc a b c)=orB (orB (dnL a) (dnL b)) (dnL c):=rfl
theorem leadLe(s:Nat)(g:Glu)(l:Nd):Le (leadV s g l) (partV (.lead s g l)):=
 .tup (.cons (.refl _) (.cons (.refl _) (.cons (.lst (.cons (.tup (.cons (.refl _) (.cons (Le.abs (d:=.parts [l]) (show(1:Nat)≤100 by decide)) .nil))) .nil)) (.cons (.refl _) .nil))))
theorem i0s(hK:IsX X)(hk:29≤n)(hb:OvOK X n (ovBoxC k))(HR:LeadRun k):OvOK X (n+7) (ovSkipC (k+1)):=
 have hk7:36≤n+7:=Nat.add_le_add_right hk 7
 b0x (fnCW hK f1308) (λx0=>rfl) λnd r e nb l hx=>hx.eSkip (λw g hw x0 x0=>by
  have hm:w∈List.range 6:=List.mem_range.mpr hw
  exact((a0g hK (d0t hK) _ _ _ _ _ (a0a (v0h (k+1) g r e nb) _ hm)).res λf v h=>toPart h (a0o (v0k g) _ hm)).at hk7)
 (λs g x hb' hsub=>by
  have b1:s<3:=hb'.tl.tl.hd (by decide)
  obtain⟨l',hx',hb2⟩:=hsub.tl.tl.tl.hd rfl
  revert hb2
  exact hx'.eBox λkk sh sg o up a b c inner hb2=>by
   have hm:(s,kk)∈prd (List.range 3) (List.range 2):=a0f (List.mem_range.mpr b1) (List.mem_range.mpr (hb2.tl.tl.hd (by decide)))
   have F:=(a0g hK (hb.or ((d0t hK).at hk)) _ _ _ _ _ (a0a (HR sh sg o up a b c inner g r e nb) _ hm)).res λf v h=>toPart (leadLe _ _ _ _ _ _ h) (a0o (l0j g _) _ (List.mem_range.mpr b1))
   rw[x0j,w0s]
   exact F)
 λs g x hb' hsub=>by
  have hm:=List.mem_range.mpr (show s<3 from hb'.tl.tl.hd (by decide))
  obtain⟨l',hx',_⟩:=hsub.tl.tl.tl.hd rfl
  exact hx'.eRule λa b c=>((a0g hK (d0t hK) _ _ _ _ _ (a0a (n0f (k+1) a b c g r e nb) _ hm)).res λf v h=>toPart (leadLe _ _ _ _ _ _ h) (a0o (l0j g _) _ hm)).at hk7
theorem c0z(hK:IsX X)(hk:29≤n)(hb:OvOK X n (ovPartC k))(hm:m≤3)(HR:ListRun k m):OvOK X (n+7) (ovListC k m):=
 b0x (fnCW hK f1330) (λx0=>rfl) λl r e nb l' hx hb' hsub=>by
  cases(show l'=_ from hx.inv)
  have b1:l.length<m+1:=hb'.hd (Nat.succ_pos m)
  obtain⟨a,b,c,hl⟩:=p0m (l:=l) (Nat.lt_of_lt_of_le b1 (Nat.succ_le_succ hm))
  have F:=(a0g hK (hb.or ((d0t hK).at hk)) _ _ _ _ _ (a0a (HR a b c r e nb) _ hl)).res (y':=.abs (.parts l)) λf v h=>.abs (Nat.le_trans (Nat.le_of_lt_succ b1) (Nat.le_trans hm (by decide:3≤100))) h
  rw[i0g] at F
  exact F
theorem FnV.toLet{g:Value}{xs:List V}{σ σ':Gs}{nd:Nd}(F:FnV X n g xs σ (.abs (.lpart nd)) σ'):FnV X n g xs σ (.abs (.part nd)) σ':=F.res λf v h=>Le.part nd X f v h
theorem discLe{a b c:List Nd}(ha:a.length≤100)(hb:b.length≤100)(hc:c.length≤100):Le (discV a b c) (partV (.disc a b c)):=
 .tup (.cons (.obj (.cons (.items ha) (.cons (.items hb) (.cons (.items hc) .nil)))) (.cons (.refl _) (.cons (.lst (.cons (.tup (.cons (.refl _) (.cons (.parts ha) .nil))) (.cons (.tup (.cons (.refl _) (.cons (.parts hb) .nil))) .nil))) (.cons (.parts hc) .nil))))
theorem o0u(hK:IsX X){ws:List Nat}{w:Nat}(HR:DiscRun k ws)(hw:w∈ws){a b c:List Nd}(ha:a.length<3)(hb:b.length<3)(hc:c.length<3)(r:List Dr)(e:P2)(nb:Bool):
  FnV X 36 (.ref 1325) [.gl 0,.abs .tools,.int (Int.ofNat k)] ⟨(.v 16 w::(.v 3 a.length::a.map .letter++(.v 3 b.length::b.map .letter++(.v 3 c.length::c.map .letter))))++r,e,nb,0⟩ (.abs (.part (.disc a b c))) ⟨r,e,orB nb (dn (.disc a b c)),0⟩:=by
 obtain⟨a1,a2,ma⟩:=j0w ha
 obtain⟨b1,b2,mb⟩:=j0w hb
 obtain⟨c1,c2,mc⟩:=j0w hc
 have mm:=a0f ma (a0f mb mc)
 have u:∀{l:List Nd},l.length<3->l.length≤100:=λh=>Nat.le_trans (Nat.le_of_lt h) (by decide)
 have D:=discLe (u ha) (u hb) (u hc)
 have L:=a0o (u0u a1 a2 b1 b2 c1 c2) _ mm
 have F:=(a0g hK (e0r hK) _ _ _ _ _ (a0a (HR a1 a2 b1 b2 c1 c2 r e nb) (w,a,b,c) (a0f hw mm))).res (y':=.abs (.part (.disc a b c))) λf v h=>toPart (D _ _ _ h) L
 rw[z0u,←show nbF (nbF (nbF nb a) b) c=orB nb (orB (orB (dnL a) (dnL b)) (dnL c)) by rw[i0g,i0g,i0g,e0d,e0d,e0d]]
 exact F
theorem nilItems:Le (.lst [] 0) (.abs (.items [])):=Le.abs (d:=.items []) (show(0:Nat)≤100 by decide)
theorem nilParts:Le (.lst [] 0) (.abs (.parts [])):=Le.abs (d:=.parts []) (show(0:Nat)≤100 by decide)
theorem adjLe{it pt:V}{l:List Nd}(h1:Le it (.abs (.items l)))(h2:Le pt (.abs (.parts l))):Le (adjV it pt) (partV (.adj l)):=
 .tup (.cons (.obj (.cons h1 .nil)) (.cons (.refl _) (.cons (.lst (.cons (.tup (.cons (.refl _) (.cons h2 .nil))) .nil)) (.cons (.refl _) .nil))))
theorem insLe{num size:Nat}{cost:Int}{g:Glu}{it pt:V}{l:List Nd}(h1:Le it (.abs (.items l)))(h2:Le pt (.abs (.parts l))):Le (insV num size cost g it pt) (partV (.ins num size cost g l)):=
 .tup (.cons (.obj (.cons (.refl _) (.cons (.refl _) (.cons (.refl _) (.cons (.refl _) (.cons (.refl _) (.cons h1 .nil))))))) (.cons (.refl _) (.cons (.lst (.cons (.tup (.cons (.refl _) (.cons h2 .nil))) .nil)) (.cons (.refl _) .nil))))
theorem t0h(k:Nat)(nd:Nd):∀w:Fin 3,(w.1,Dr.box k nd)∈psB k nd
 |0=>.head _
 |1=>.tail _ (.head _)
 |2=>.tail _ (.tail _ (.head _))
theorem r0r(k:Nat)(nd:Nd)(w:Fin 12)(h:9≤w.1):(w.1,Dr.skip (k+1) nd)∈psB k nd:=by
 have:w.1∈[9,10,11]:=(by decide:∀w:Fin 12,9≤w.1->w.1∈[9,10,11]) w h
 exact .tail _ (.tail _ (.tail _ (.tail _ (List.mem_map.mpr ⟨w.1,this,rfl⟩))))
theorem m0s(hK:IsX X):OvOK X 36 (ovPartC 0):=b0x (fnCW hK f1325) (λx0=>rfl) λnd r e nb l hx hb hsub=>by
 have S:∀w d,(w,d)∈psS nd->FnV X 36 (.ref 1325) [.gl 0,.abs .tools,.int (Int.ofNat 0)] ⟨.v 16 w::d::r,e,nb,0⟩ (.abs (.part nd)) ⟨r,e,orB nb (dn nd),0⟩:=λw d hm=>a0g hK (e0r hK) _ _ _ _ _ (a0a (z0c nd r e nb) (w,d) hm)
 revert S hb
 clear hsub
 cases hx with
 |pletter _ w _ hw=>exact λx0 S=>(a0g hK (e0r hK) _ _ _ _ _ (a0a (z0y nd r e nb) (w,.letter nd) (List.mem_map.mpr ⟨w,List.mem_range.mpr (hw.elim And.right λq=>by rw[q];decide),rfl⟩))).toLet
 |pkern=>exact λx0 S=>S 4 _ (.head _)
 |ppen=>exact λx0 S=>S 5 _ (.tail _ (.head _))
 |prule=>exact λx0 S=>S 6 _ (.tail _ (.tail _ (.head _)))
 |pdone=>exact λx0 S=>S 7 _ (.tail _ (.tail _ (.tail _ (.head _))))
 |pedge=>exact λx0 S=>S 8 _ (.tail _ (.tail _ (.tail _ (.tail _ (.head _)))))
 |pdisc _ w a b c hw=>
  refine λhb S=>o0u hK q0l (hw.elim (λh=> ?_) λh=>by rw[h];decide) (hb.tl.hd (by decide)) (hb.tl.tl.mid.hd (by decide)) (hb.tl.tl.mid.tl.mid.hd (by decide)) r e nb
  exact(by decide:∀w:Fin 13,9≤w.1->w.1∈[9,10,11,12]) ⟨w,h.2.2⟩ h.2.1
 |padj0=>exact λx0 S=>(a0g hK (e0r hK) _ _ _ _ _ (s0s r e nb)).res λf v h=>toPart (adjLe nilItems nilParts _ _ _ h) n0i
 |pins0 w num size cost g hw=>
  refine λx0 S=>(a0g hK (e0r hK) _ _ _ _ _ (a0a (s0d num size cost g r e nb) w (hw.elim (λh=> ?_) λh=> ?_))).res λf v h=>toPart (insLe nilItems nilParts _ _ _ h) (r0g num size cost g)
  ·rw[h];exact .head _
  ·rw[h];exact .tail _ (.head _)
structure PartRuns(k:Nat):Prop where
 l:PartRun (k+1) ovQ psL λa=>.abs (.lpart a)
 s:PartRun (k+1) ovQ psS λa=>.abs (.part a)
 b:PartRun (k+1) (ovN' k) (psB k) λa=>.abs (.part a)
 d:DiscRun (k+1) [12]
 a:AdjRun k
 i:InsRun k
theorem g0l(hK:IsX X)(hk:29≤n)(h1:OvOK X n (ovBoxC k))(h2:OvOK X n (ovCellC k))(h3:OvOK X n (ovSkipC (k+1)))(h4:OvOK X n (ovListC k 2))(HR:PartRuns k):OvOK X (n+7) (ovPartC (k+1)):=b0x (fnCW hK f1325) (λx0=>rfl) λnd r e nb l hx hb hsub=>by
 have hN:OvOK X n (ovN' k):=h1.or (h2.or (h3.or (h4.or ((e0r hK).at hk))))
 have hk7:36≤n+7:=Nat.add_le_add_right hk 7
 clear h1 h2 h3 h4 hsub
 have S:∀w d,(w,d)∈psS nd->FnV X (n+7) (.ref 1325) [.gl 0,.abs .tools,.int (Int.ofNat (k+1))] ⟨.v 16 w::d::r,e,nb,0⟩ (.abs (.part nd)) ⟨r,e,orB nb (dn nd),0⟩:=λw d hm=>(a0g hK (e0r hK) _ _ _ _ _ (a0a (HR.s nd r e nb) (w,d) hm)).at hk7
 have B:∀w d,(w,d)∈psB k nd->FnV X (n+7) (.ref 1325) [.gl 0,.abs .tools,.int (Int.ofNat (k+1))] ⟨.v 16 w::d::r,e,nb,0⟩ (.abs (.part nd)) ⟨r,e,orB nb (dn nd),0⟩:=λw d hm=>a0g hK hN _ _ _ _ _ (a0a (HR.b nd r e nb) (w,d) hm)
 revert hb
 revert S B
 cases hx with
 |pbox _ w _ hw=>exact λS B x0=>B _ _ (t0h k nd ⟨w,hw⟩)
 |pcell=>exact λS B x0=>B 15 _ (.tail _ (.tail _ (.tail _ (.head _))))
 |pletter _ w _ hw=>
  obtain rfl:w=3:=hw.elim (λh=>nomatch h.1) id
  exact λx0 x0 x0=>((a0g hK (e0r hK) _ _ _ _ _ (a0a (HR.l nd r e nb) (3,.letter nd) (.head _))).toLet).at hk7
 |pkern=>exact λS x0 x0=>S 4 _ (.head _)
 |ppen=>exact λS x0 x0=>S 5 _ (.tail _ (.head _))
 |prule=>exact λS x0 x0=>S 6 _ (.tail _ (.tail _ (.head _)))
 |pdone=>exact λS x0 x0=>S 7 _ (.tail _ (.tail _ (.tail _ (.head _))))
 |pedge=>exact λS x0 x0=>S 8 _ (.tail _ (.tail _ (.tail _ (.tail _ (.head _)))))
 |pskip _ w _ hw=>exact λS B x0=>B _ _ (r0r k nd ⟨w,hw.2⟩ hw.1)
 |pdisc _ w a b c hw=>
  obtain rfl:w=12:=hw.elim (λh=>nomatch h.1) id
  exact λx0 x0 hb=>(o0u hK HR.d (.head _) (hb.tl.hd (by decide)) (hb.tl.tl.mid.hd (by decide)) (hb.tl.tl.mid.tl.mid.hd (by decide)) r e nb).at hk7
 |padj _ l=>
  rw[d1l]
  exact λx0 x0 x0=>(a0g hK hN _ _ _ _ _ (HR.a l r e nb)).res λf v h=>toPart (adjLe (.refl _) (.refl _) _ _ _ h) n0i
 |pins _ num size cost g l=>
  rw[e1a]
  exact λx0 x0 x0=>(a0g hK hN _ _ _ _ _ (HR.i num size cost g l r e nb)).res λf v h=>toPart (insLe (.refl _) (.refl _) _ _ _ h) (r0g num size cost g)
theorem partRuns0:PartRuns 0:=⟨y0o,z0s,x0y,o0b,s0a,s0z⟩
theorem partRuns1:PartRuns 1:=⟨y0m,x0w,y0g,p0j,s0k,t0r⟩
end
theorem o0s(S:Str)(b:Nat)(w:Wd):wden (.h S b::w)=S++wden w:=b0k (by rw[a0i,c0i,a0i];rfl)
theorem d0v{x y:Wd}(a:Wd)(h:wden x=wden y):wden (a++x)=wden (a++y):=by rw[a0c,a0c,h]
theorem x0q(kk sh sg o up:Nat)(a b c:Int)(l:List Nd):wden (boxW kk sh (wden (setW sg o up)) a b c)=txt (.box kk sh sg o up a b c l):=by
 have h:∀b w,wden (.h (wden (setW sg o up)) b::w)=wden (setW sg o up++w):=λb w=>(o0s ..).trans (a0c ..).symm
 cases kk<;>exact d0v _ (d0v _ (d0v _ (d0v _ (h ..))))
theorem d1h(d b:Nat){σ:Gs}(h1:σ.nb=true)(h2:σ.md=0):ntMw.map (λnd=>NT d b nd σ)=mapR (λnd=>some (.str (textOf nd),σ)) ntMw:=
 have q:⟨σ.ds,σ.e,true,0⟩=σ:=by cases σ;cases h1;cases h2;rfl
 Eq.rec (motive:=λz x0=>ntMw.map (λnd=>NT d b nd z)=mapR (λnd=>some (V.str (textOf nd),z)) ntMw) (nt_mw d b σ.ds σ.e) q
noncomputable def isLf:Nd->Bool
 | .box .. =>false
 | .cell .. =>false
 | .lead .. =>false
 | .disc .. =>false
 | .adj .. =>false
 | .ins .. =>false
 |_=>true
noncomputable def isBx:Nd->Bool
 | .box .. =>true
 |_=>false
theorem f0v{nd:Nd}(e:isLf nd=true){k:Nat}(h:WfN k nd):leafOk nd:=by
 cases k with
 |zero=>exact h
 |succ k=>cases nd<;>first|exact h|exact Bool.noConfusion e
theorem rg{a b:Nat}(h:a<b):a∈List.range b:=List.mem_range.mpr h
theorem z0j{k:Nat}{nd:Nd}(hw:WfN k nd){σ:Gs}(hd:dn nd=true->σ.nb=true)(hm:σ.md=0)(d b:Nat)(hb:isBx nd=false):NT d b nd σ=some (.str (textOf nd),σ):=by
 cases nd with
 |char i c=>
  have h:i<2∧c<6:=f0v rfl hw
  exact a0a (w0r d b σ) _ (List.mem_append_left _ (List.mem_map.mpr ⟨(i,c),a0f (rg h.1) (rg h.2),rfl⟩))
 |lig i c l r=>
  have h:i<2∧c<6∧l<2∧r<2:=f0v rfl hw
  exact a0a (w0r d b σ) _ (List.mem_append_right _ (List.mem_map.mpr ⟨((i,c),(l,r)),a0f (a0f (rg h.1) (rg h.2.1)) (a0f (rg h.2.2.1) (rg h.2.2.2)),rfl⟩))
 |mark n=>exact a0a (d1h d b (hd rfl) hm) _ (List.mem_append_left _ (List.mem_map.mpr ⟨n,rg (f0v rfl hw),rfl⟩))
 |write n=>exact a0a (d1h d b (hd rfl) hm) _ (List.mem_append_right _ (List.mem_map.mpr ⟨n,rg (f0v rfl hw),rfl⟩))
 |spec n=>exact a0a (a1s d b σ) _ (List.mem_append_left _ (List.mem_map.mpr ⟨n,rg (f0v rfl hw),rfl⟩))
 |oout n=>exact a0a (a1s d b σ) _ (List.mem_append_right _ (List.mem_append_left _ (List.mem_map.mpr ⟨n,rg (f0v rfl hw),rfl⟩)))
 |cout n=>exact a0a (a1s d b σ) _ (List.mem_append_right _ (List.mem_append_right _ (List.mem_map.mpr ⟨n,rg (f0v rfl hw),rfl⟩)))
 |skip w g=>
  have h:w<6∧gluOk g:=f0v rfl hw
  exact a0a (a1z d b σ g) w (rg h.1)
 |lead s g l=>
  cases k with
  |zero=>exact absurd hw id
  |succ k=>exact a0a (y0e d b σ g l) s (rg hw.1)
 |rule x y z=>
  have h:x<3∧y<3∧z<3:=f0v rfl hw
  exact a0a (a1v d b σ) _ (List.mem_map.mpr ⟨(x,y,z),a0f (rg h.1) (a0f (rg h.2.1) (rg h.2.2)),rfl⟩)
 |kern n s=>exact a0a (z0w d b σ n) s (rg (f0v rfl hw))
 |pen n=>exact d1e d b σ n
 |edge n on=>
  have h: -9≤n∧n≤20∧on<2:=f0v rfl hw
  exact a0a (z0e d b σ) _ (List.mem_map.mpr ⟨(n,on),a0f (b0w h.1 h.2.1) (rg h.2.2),rfl⟩)
 |disc x y z=>
  cases k with
  |zero=>exact absurd hw id
  |succ k=>
   have hz:z.length≤2:=hw.1.2.2
   rcases z with _|⟨z1,_|⟨z2,_|⟨z3,z⟩⟩⟩
   ·exact a0a (j0x d b σ x y (.mark 0) (.mark 0)) [] (.head _)
   ·exact a0a (j0x d b σ x y z1 (.mark 0)) [z1] (.tail _ (.head _))
   ·exact a0a (j0x d b σ x y z1 z2) [z1,z2] (.tail _ (.tail _ (.head _)))
   ·exact absurd hz (Nat.not_le_of_lt (Nat.le_add_left ..))
 |adj l=>exact d1x d b σ l
 |ins u v c g l=>exact c1e d b σ u v c g l
 |box kk sh sg o up x y z l=>exact Bool.noConfusion hb
 |cell sp m o x y z l=>
  cases k with
  |zero=>exact absurd hw id
  |succ k=>exact a0a (x0v d b σ x y z l) (sp,m,o) (a0f (rg hw.1.1) (a0f (rg hw.1.2.1) (rg hw.1.2.2)))
theorem s0h{P:Nd->Prop}(f:∀kk sh sg o up x y z l,P (.box kk sh sg o up x y z l)){nd:Nd}(h:isBx nd=true):P nd:=by
 cases nd<;>first|exact f .. |exact Bool.noConfusion h
section
variable {X:Cx} {k:Nat} {nd:Nd} {σ:Gs} {d b:Nat}
theorem v0t{w':Wd}(e:wden w'=txt nd)(F:FnV X 36 (.ref 1024) [.abs (.show_ d b),.abs (.node nd)] σ (.str w') σ):FnV X 36 (.ref 1024) [.abs (.show_ d b),.abs (.node nd)] σ (.str [.h (txt nd) 400]) σ:=
 ⟨F.1,λA f s vs hA S hv=>by
  have hv':=hv
  obtain⟨v,w,rfl,g1,g2⟩:=hv'.two'
  have hl:(txt nd).length≤400:=by cases g2 using VR.eAbs with|abs k _=>exact k
  exact(F.res λf v h=>b0b h e hl).2 A f s _ hA S hv⟩
theorem m0c(hK:IsX X){kk sh sg o up:Nat}{x y z:Int}{l:List Nd}(hw:WfN k (.box kk sh sg o up x y z l)):FnV X 36 (.ref 1024) [.abs (.show_ d b),.abs (.node (.box kk sh sg o up x y z l))] σ (.str [.h (txt (.box kk sh sg o up x y z l)) 400]) σ:=by
 cases k with
 |zero=>exact absurd hw id
 |succ k=>
  have F:=a0g hK (v0x hK) _ _ _ _ _ (a0a (b1j d b σ (k+1) sg o up x y z l) (kk,sh) (a0f (rg hw.1.1) (rg hw.1.2.1)))
  exact v0t (x0q kk sh sg o up x y z l) (F.arg λf vs hv=>by
   obtain⟨v,w,rfl,g1,g2⟩:=hv.two'
   refine .two g1 ?_
   cases g2 using VR.eAbs with
   |abs k' h'=>exact .abs ⟨k',hw⟩ h')
theorem k0f(hK:IsX X)(hw:WfN k nd)(hd:dn nd=true->σ.nb=true)(hm:σ.md=0)(d b:Nat):FnV X 36 (.ref 1024) [.abs (.show_ d b),.abs (.node nd)] σ (.str [.h (txt nd) 400]) σ:=by
 cases q:isBx nd with
 |false=>exact v0t rfl (a0g hK (v0x hK) _ _ _ _ _ (z0j hw hd hm d b q))
 |true=>exact s0h (P:=λnd=>WfN k nd->FnV X 36 (.ref 1024) [.abs (.show_ d b),.abs (.node nd)] σ (.str [.h (txt nd) 400]) σ) (λ_ _ _ _ _ _ _ _ _ hw=>m0c hK hw) q hw
end
noncomputable def itemG(p:Wd × List Nd):V:=.tup [.str p.1,.abs (.items p.2)]
noncomputable def itemsL(l:List (Wd × List Nd)):List V:=l.map itemG
noncomputable abbrev LO(nd:Nd)(σ:Gs):=RUN noOv (.ref 1031) [.abs (.node nd)] σ
theorem l0x{X:Cx}(hK:IsX X){k:Nat}{nd:Nd}(hw:WfN k nd)(σ:Gs):FnV X 7 (.ref 1031) [.abs (.node nd)] σ (.lst (itemsL (listsOf nd)) (listsN (listsOf nd))) σ:=by
 have one:∀y,LO nd σ=some (y,σ)->Le y (.lst (itemsL (listsOf nd)) (listsN (listsOf nd)))->FnV X 7 (.ref 1031) [.abs (.node nd)] σ (.lst (itemsL (listsOf nd)) (listsN (listsOf nd))) σ:=λy h hl=>(a0g (m:=0) hK d0k _ _ _ _ _ h).res λf v h=>hl X f v h
 cases nd with
 |box kk sh sg o up x y z l=>
  match k,kk,hw with
  |_+1,0,_=>exact one (.lst [.tup [.str (wS "."),.abs (.items l)]] 1) (by kernel_rfl) (.refl _)
  |_+1,1,_=>exact one (.lst [.tup [.str (wS "."),.abs (.items l)]] 1) (by kernel_rfl) (.refl _)
  |_+1,_+2,hw=>exact absurd hw.1.1 (Nat.not_lt_of_le (Nat.le_add_left ..))
 |lead s g l=>exact one (.lst [.tup [.str (wS "."),.lst [.abs (.node l)] 1]] 1) (by kernel_rfl) (.lst (.cons (.tup (.cons (.refl _) (.cons (Le.abs (d:=.items [l]) (show(1:Nat)≤100 by decide)) .nil))) .nil))
 |disc x y z=>exact one (.lst [.tup [.str (wS "."),.abs (.items x)],.tup [.str (wS "|"),.abs (.items y)]] 2) (by kernel_rfl) (.refl _)
 |adj l=>exact one (.lst [.tup [.str (wS "."),.abs (.items l)]] 1) (by kernel_rfl) (.refl _)
 |ins u v c g l=>exact one (.lst [.tup [.str (wS "."),.abs (.items l)]] 1) (by kernel_rfl) (.refl _)
 |cell sp m o x y z l=>exact one (.lst [.tup [.str (wS "."),.abs (.items l)]] 1) (by kernel_rfl) (.refl _)
 |_=>exact one (.lst [] 0) (by kernel_rfl) (.refl _)
section
variable {X:Cx} {A:Around} {K:Kx} {n:Nat} {env:Env} {n₀:Bs} {vars vars':Vars} {ow:Option (Str × Ow)} {m cm:Str->Option Value} {f f':FH} {σ σ₁ σ₂ σ3:Gs} {s:Shared} {st st':Sx} {fl:Fl} {h h':Heap}
theorem a0d(C:Cz X env n₀)(R:Rel X env n₀ f s.heap vars ow m cm)(S:St X f σ s.heap){x:Str}{p:Pos}{y:V}(hx:okName x=true)(e:look x vars=some y):Tr X A (eval (.Name x p) env) f σ s y σ:=by
 intro Q E hQ
 obtain⟨v,hv,hr⟩:=R.vars _ _ e
 exact ld C R hx hv (here' S hQ hr)
theorem b0j(EK:EcOK X K.toEc)(C:Cz X env n₀)(S:St X f σ s.heap){x:Str}{p:Pos}{y:V}(hk:kindG env.scope x=true)(hl:look x K.GT=some y)(hx:okName x=true):Tr X A (eval (.Name x p) env) f σ s y σ:=by
 intro Q E hQ
 exact wpAny_Name (d0a EK C S hk hl hx Q E hQ) (a0v hx).1
theorem b0p{c:Expr}(hA:Room X A n){cpos:Pos}{g:Value}{x:Str}{cp:Pos}{args:List Expr}{xs:List V}{y:V}(HN:Tr X A (eval (.Name x cp) env) f σ s (.con g) σ)(hp:allPlain args=true)
  (HA:∀f' h' t',Kp X f s.heap f' h'->St X f' σ h'->TrL X A (spliced (treesOf args env)) f' σ {s with heap:=h',toks:=t'} xs σ₁)(F:FnV X n g xs σ₁ y σ₂):Tr X A (eval (.Call (.Name x cp) args [] cpos) env) f σ s y σ₂:=by
 intro Q E hQ
 refine c0l (HN _ _ λva f1 hp1 t1 K1 S1 r1=> ?_)
 cases r1
 rw[a0k hp]
 refine F.1 _ _ _ _ _ _ _ (d0c args env) (a0n (λz hz=> ?_) ?_)
 ·obtain⟨e,_,rfl⟩:=List.mem_map.mp hz;rfl
 ·refine HA f1 hp1 t1 K1 S1 _ _ λvs f2 hp2 t2 K2 S2 r2=>⟨S2.kin,?_⟩
  exact F.2 A f2 {s with heap:=hp2,toks:=t2} vs hA S2 r2 _ _ λvd f3 hp3 t3 K3 S3 r3=>hQ vd f3 hp3 t3 ((K1.trans K2).trans K3) S3 r3
theorem b0f(S:St X f σ s.heap):TrL X A (spliced (treesOf [] env)) f σ s [] σ:=λQ E hQ=>Calls.spliced_nil (hQ [] f s.heap s.toks Kp.refl S .nil)
theorem a0b{e:Expr}{es:List Expr}{x:V}{xs:List V}(H1:Tr X A (eval e env) f σ s x σ₁)(H2:∀f' h' t',Kp X f s.heap f' h'->St X f' σ₁ h'->TrL X A (spliced (treesOf es env)) f' σ₁ {s with heap:=h',toks:=t'} xs σ₂):TrL X A (spliced (treesOf (e::es) env)) f σ s (x::xs) σ₂:=by
 intro Q E hQ
 refine Calls.spliced_cons (H1 _ _ λa f1 hp1 t1 K1 S1 r1=> ?_)
 exact H2 f1 hp1 t1 K1 S1 _ _ λb f2 hp2 t2 K2 S2 r2=>hQ (a::b) f2 hp2 t2 (K1.trans K2) S2 (.cons (r1.mono K2.le) r2)
theorem TrS.noVars{t:Sem Flow}{vs:Vars}(H:TrS X A env n₀ t f st s fl ⟨vs,ow,σ⟩):TrS X A env n₀ t f st s fl ⟨[],none,σ⟩:=λQ E hQ=>H Q E λfl' f' h' t' m' cm' r le S R=>hQ fl' f' h' t' m' cm' r le S (R.noOwn.weak λx y e=>by cases e)
theorem Rel.owLe{x:Str}{l l':List V}{k k':Nat}(R:Rel X env n₀ f h vars (some (x,.lst l k)) m cm)(hl:LeS l l')(hk:l'.length≤k'):Rel X env n₀ f h vars (some (x,.lst l' k')) m cm:=
 ⟨R.kp,R.me,R.pin,R.fm,R.vars,λx' o e=>by
  cases e
  obtain⟨v,hv,a,vs,i,rfl,h1,h2,h3,h4⟩:=R.own _ _ rfl
  exact⟨_,hv,a,vs,i,rfl,h1,hl.vr h2,hk,h4⟩⟩
theorem TrS.weakE{t:Sem Flow}{vs vs':Vars}{σ:Gs}(H:TrS X A env n₀ t f st s fl ⟨vs,ow,σ⟩)(hw:WL vs vs'):TrS X A env n₀ t f st s fl ⟨vs',ow,σ⟩:=
 λQ E hQ=>H Q E λfl' f' h' t' m' cm' r le S R=>hQ fl' f' h' t' m' cm' r le S (R.weakL hw)
theorem TrS.owLe{t:Sem Flow}{vs:Vars}{σ:Gs}{x:Str}{l:List V}{k k':Nat}(H:TrS X A env n₀ t f st s fl ⟨vs,some (x,.lst l k),σ⟩)(h:l.length≤k'):TrS X A env n₀ t f st s fl ⟨vs,some (x,.lst l k'),σ⟩:=
 λQ E hQ=>H Q E λfl' f' h' t' m' cm' r le S R=>hQ fl' f' h' t' m' cm' r le S (R.owLe (LeS.refl _) h)
end
noncomputable def ovLnP:∀g xs σ,OvR (λx0=>True) 0 g xs σ:=λg xs σ=>match g,xs with
 | .builtin "len",[.str [.h S b]]=>.onT (Nat.ble b 4000) λhb=>.ok (.int (Int.ofNat S.length)) σ λX x0=>⟨a0l,λA f s vs hA S' hv Q E hQ=>by
  cases hv with
  |cons hV hv=>
  cases hv
  cases hV using VR.eStr with
  |str t ho=>
  rw[a0e]
  exact PySem.P.len_str (by have h1:S.length≤b:=ho.1;have h2:=Nat.le_of_ble_eq_true hb;lia) (here S' hQ (.int _ _))⟩
 |_,_=>.no
noncomputable def ovLn:Ov:=ovOf ovLnP
theorem r0v{X:Cx}:OvOK X 0 ovLn:=b0c trivial
noncomputable abbrev KL:Kx:=lvl ecT fns mks ovLn 80 0
theorem u0s{X:Cx}{n:Nat}(hK:IsX X):KxOK X n KL:=b0z (m:=n) (a0y hK) 0 (r0v.at (Nat.zero_le _))
noncomputable def rowV(s:Str):V:=.str [.h s 1000]
noncomputable def rowsL(l:List Str):List V:=l.map rowV
noncomputable def rowsV(l:List Str):V:=.lst (rowsL l) 30000
theorem keep52(P:Params):keepIn (frag P) (.ref 52)=true:=by kernel_rfl
noncomputable def badT:List (Str × V):=[("BadArgument",.con (.ref 52))]
theorem gbad(P:Params):allB (gChk (frag P)) badT=true:=by kernel_rfl
theorem lbad:look "BadArgument" badT=some (.con (.ref 52)):=by kernel_rfl
theorem v0y{X:Cx}(hK:X.K=frag X.w.params):EcOK X ⟨badT,[],[],[],[],false⟩:=h0q (λh=>by cases h) ⟨by rw[hK];exact gbad _,rfl,rfl,rfl,rfl⟩
noncomputable def excObj(t d:Addr):Obj:={cls:=.ref 52,dict:=some d,data:=.fields #[.ref t,.none,.none,.none,.bool false,.none]}
section
variable {X:Cx} {A:Around} {n:Nat} {env:Env} {n₀:Bs} {vars:Vars} {ow:Option (Str × Ow)} {m cm:Str->Option Value} {f:FH} {σ:Gs} {s:Shared}
theorem v0a(hK:X.K=frag X.w.params)(hA:Room X A (n+4))(hh:A.handled=none)(C:Cz X env n₀)(S:St X f σ s.heap)(hk:kindG env.scope "BadArgument"=true){msg:Str}{k:Nat}{np p cpos pos:Pos}{Q:Flow->Shared->Prop}{E:Value->Shared->Prop}
  (hE:∀e f' h' t' t d,Kp X f s.heap f' h'->St X f' σ h'->s.heap.get? e=none->h'.get? e=some (excObj t d)->E (.ref e) {s with heap:=h',toks:=t'}):
  wpAny X.M A (exec (.Raise (some (.Call (.Name "BadArgument" np) [.Constant (.str msg) k p] [] cpos)) none pos) env) Q E s:=by
 obtain⟨k0,k1,k2,k3,k5,e52⟩:=c52 X.w.params
 rw[←hK] at e52
 rw[arm_exec_Raise]
 refine wpAny_bind (wpAny_standAt (v0q (C:=52) (bm:=.ref 39::mroB) (N:=51) (nm:="BadArgument") (q:="BadArgument") (bs:=[.ref 39]) (hdct:=true) (sn:=[]) (sub:=[]) (ab:=false) (col:=none) (dd:=none) (k0:=k0) (k1:=k1) (k2:=k2) (k3:=k3) (k5:=k5) (newId:="ValueError.__new__") (by rfl) hh (wpAny_bind (wpAny_mono ?_ (λv s₃ h₃=>wpAny_bind (wpAny_standAt (wpAny_pure h₃))) λx0 x0 x=>x))))
 refine c0l (wpAny_Name (d0a (K:=⟨⟨badT,[],[],[],[],false⟩,λx0 x0 x0=>none⟩) (v0y hK) C S hk lbad rfl _ _ λva f1 h1 t1 K1 S1 r1=> ?_) rfl)
 cases r1
 rw[a0k (show allPlain [Expr.Constant (.str msg) k p]=true from rfl)]
 refine e0u (show keepIn X.K (.ref 52)=true by rw[hK];exact keep52 _) A _ _ _ [] (treesOf [Expr.Constant (.str msg) k p] env) _ rfl (a0n (λx hx=>by cases List.mem_singleton.mp hx;rfl) ?_)
 refine Calls.spliced_cons (b0t (s:={s with heap:=h1,toks:=t1}) (y:=.str (wS msg)) S1 (by rfl) _ _ λvb f2 h2 t2 K2 S2 r2=>Calls.spliced_nil ⟨S2.kin,?_⟩)
 refine t0x (s:={s with heap:=h2,toks:=t2}) hK hA S2 λe h3 t3 t d K3 S3 new he=> ?_
 refine⟨e,t,d,rfl,S3.kin _ _ e52,he,?_⟩
 have K12:=K1.trans K2
 have ng:¬X.G e:=by
  rintro⟨j,hj,rfl⟩
  obtain⟨o,ho⟩:=S2.inv.live j hj
  dsimp only at new;rw[new] at ho;cases ho
 refine hE e f2 h3 t3 t d (K12.trans K3) S3 ?_ he
 cases q:s.heap.get? e with
 |none=>rfl
 |some o=>
  have:=K12.keep _ _ q ng
  dsimp only at new;rw[new] at this;cases this
end
section
variable {prog:Program} {w:World} {A:Around} {E:Value->Shared->Prop} {s:Shared} {R:Result->Shared->Prop}
noncomputable abbrev LC2(elt t1 i1 t2 i2:Expr)(scope:Scope)(pos:Pos):Expr:=.ListComp elt [⟨t1,i1,[],0⟩,⟨t2,i2,[],0⟩] scope pos
theorem s0y(elt t1 i1 t2 i2:Expr)(scope:Scope)(pos:Pos)(it acc:Value)(env:Env):
  compTurn (LC2 elt t1 i1 t2 i2 scope pos) 0 it acc env=(standAt i1.pos >>= λx0=>pyNext it >>= λr=>match r with
   |none=>pure (.done .next)
   |some v=>letOwnedTupleGo t1 it v >>= λx0=>assign t1 env v >>= λx0=>eval i2 env >>= λx=>standAt i2.pos >>= λx0=>foldedSetIterable i2 env x >>= λx=>holding [x] (pyIter x) >>= λit'=>
    runOwn (.compStart (LC2 elt t1 i1 t2 i2 scope pos) 1 it' acc env) env >>= λx0=>again (.compLoop (LC2 elt t1 i1 t2 i2 scope pos) 0 it acc env)):=by rfl
theorem y0l(elt t1 i1 t2 i2:Expr)(scope:Scope)(pos:Pos)(it acc:Value)(env:Env):
  compTurn (LC2 elt t1 i1 t2 i2 scope pos) 1 it acc env=(standAt i2.pos >>= λx0=>pyNext it >>= λr=>match r with
   |none=>pure (.done .next)
   |some v=>letOwnedTupleGo t2 it v >>= λx0=>assign t2 env v >>= λx0=>
    (eval elt env >>= λx=>call (.builtin "list.append") [acc,x] >>= λx0=>pure ()) >>= λx0=>
     again (.compLoop (LC2 elt t1 i1 t2 i2 scope pos) 1 it acc env)):=by rfl
theorem a1h{elt t1 i1 t2 i2:Expr}{scope:Scope}{pos:Pos}{it acc:Value}{env:Env}(I:Nat->Shared->Prop)
  (turn:∀n s,I n s->wpAny (model prog w) A (pyNext it) (λr s₁=>match r with
   |none=>R (.ok .next) s₁
   |some v=>wpAny (model prog w) A (assign t2 env v) (λx0 s₂=>wpAny (model prog w) A (eval elt env) (λx s₃=>
     wpAny (model prog w) A (call (.builtin "list.append") [acc,x]) (λx0 s₄=>∃m,m<n∧I m s₄) (notedBy (model prog w) A env λe s'=>R (.error e) s') s₃)
     (notedBy (model prog w) A env λe s'=>R (.error e) s') s₂) (notedBy (model prog w) A env λe s'=>R (.error e) s') s₁) (notedBy (model prog w) A env λe s'=>R (.error e) s') s)
  (n:Nat)(h:I n s)(ht:∀v,letOwnedTupleGo t2 it v=pure ():=by intro _;rfl):
  codeAny (model prog w) A (.compLoop (LC2 elt t1 i1 t2 i2 scope pos) 1 it acc env) R s:=by
 refine codeAny_loop rfl I (λn s hI=> ?_) n h
 show wpAny _ _ ((compTurn (LC2 elt t1 i1 t2 i2 scope pos) 1 it acc env).onRaise (λx=>do noteFrame x env;theTreesLotGoes x)) _ _ s
 refine wpAny_noted ?_
 rw[y0l]
 refine wpAny_bind (wpAny_standAt (wpAny_bind (wpAny_mono (turn n s hI) (λr s₁ h₁=> ?_) λx0 x0 h'=>h')))
 cases r with
 |none=>exact wpAny_pure h₁
 |some v=>
  refine wpAny_bind (wpAny_of_eq (ht v) ?_)
  exact wpAny_bind (wpAny_mono h₁ (λx0 s₂ h₂=>wpAny_bind (wpAny_bind (wpAny_mono h₂ (λx s₃ h₃=>wpAny_bind (wpAny_mono h₃
   (λx0 s₄ h₄=>wpAny_pure (wpAny_pure ⟨rfl,h₄⟩)) λx0 x0 h'=>h')) λx0 x0 h'=>h'))) λx0 x0 h'=>h')
theorem t0t{elt t1 i1 t2 i2:Expr}{scope:Scope}{pos:Pos}{it acc:Value}{env:Env}
  (h0:codeAny (model prog w) A (.compLoop (LC2 elt t1 i1 t2 i2 scope pos) 1 it acc env) R s)
  (h:wpAny (model prog w) A (pyIter it) (λit' s'=>codeAny (model prog w) A (.compLoop (LC2 elt t1 i1 t2 i2 scope pos) 1 it' acc env) R s') (notedBy (model prog w) A env λx s'=>R (.error x) s') s):
  codeAny (model prog w) A (.compStart (LC2 elt t1 i1 t2 i2 scope pos) 1 it acc env) R s:=by
 refine codeAny_of_tree ?_
 show wpAny _ _ ((compStart (LC2 elt t1 i1 t2 i2 scope pos) 1 it acc env).onRaise (λx=>do noteFrame x env;standAt theWindowsPlace)) _ _ s
 refine wpAny_notedAt ?_
 unfold compStart
 show wpAny _ _ (ask >>= _) _ _ s
 refine wpAny_bind (wpAny_askSetting (wpAny_ite ?_))
 split
 ·first
   |exact wpAny_bind (wpAny_pure (wpAny_pure (And.intro rfl h0)))
   |exact wpAny_pure (And.intro rfl h0)
 ·first
   |exact wpAny_bind (wpAny_rule (wpAny_bind (wpAny_standAt (wpAny_bind (wpAny_mono h (λit' s' h'=>wpAny_pure (And.intro rfl h')) λx0 x0 x=>x)))))
   |(refine wpAny_bind (wpAny_rule ?_);show wpAny _ _ (standAt i2.pos >>= _) _ _ s;exact wpAny_bind (wpAny_standAt (wpAny_bind (wpAny_mono h (λit' s' h'=>wpAny_pure (And.intro rfl h')) λx0 x0 x=>x))))
theorem u0x{elt t1 i1 t2 i2:Expr}{scope:Scope}{pos:Pos}{it acc:Value}{env:Env}(I:Nat->Shared->Prop)
  (turn:∀n s,I n s->wpAny (model prog w) A (pyNext it) (λr s₁=>match r with
   |none=>R (.ok .next) s₁
   |some v=>wpAny (model prog w) A (assign t1 env v) (λx0 s₂=>wpAny (model prog w) A (eval i2 env) (λx s₃=>wpAny (model prog w) A (pyIter x) (λit' s₄=>
     codeAny (model prog w) A (.compStart (LC2 elt t1 i1 t2 i2 scope pos) 1 it' acc env) (λr s5=>match r with
      | .ok _=>∃m,m<n∧I m s5
      | .error e=>cameBackBy (model prog w) A env (notedBy (model prog w) A env λe s'=>R (.error e) s') e s5) s₄)
     (notedBy (model prog w) A env λe s'=>R (.error e) s') s₃)
     (notedBy (model prog w) A env λe s'=>R (.error e) s') s₂) (notedBy (model prog w) A env λe s'=>R (.error e) s') s₁) (notedBy (model prog w) A env λe s'=>R (.error e) s') s)
  (n:Nat)(h:I n s)(hset:∀v,foldedSetIterable i2 env v=pure v)(ht:∀v,letOwnedTupleGo t1 it v=pure ():=by intro _;rfl):
  codeAny (model prog w) A (.compLoop (LC2 elt t1 i1 t2 i2 scope pos) 0 it acc env) R s:=by
 refine codeAny_loop rfl I (λn s hI=> ?_) n h
 show wpAny _ _ ((compTurn (LC2 elt t1 i1 t2 i2 scope pos) 0 it acc env).onRaise (λx=>do noteFrame x env;theTreesLotGoes x)) _ _ s
 refine wpAny_noted ?_
 rw[s0y]
 refine wpAny_bind (wpAny_standAt (wpAny_bind (wpAny_mono (turn n s hI) (λr s₁ h₁=> ?_) λx0 x0 h'=>h')))
 cases r with
 |none=>exact wpAny_pure h₁
 |some v=>
  refine wpAny_bind (wpAny_of_eq (ht v) ?_)
  refine wpAny_bind (wpAny_mono h₁ (λx0 s₂ h₂=>wpAny_bind (wpAny_mono h₂ (λx s₃ h₃=>wpAny_bind (wpAny_standAt (wpAny_bind (wpAny_of_eq (hset x) (wpAny_bind (wpAny_holding (wpAny_mono h₃ (λit' s₄ h₄=>wpAny_bind (wpAny_runOwn (codeAny_mono h₄ λr s5 h₅=> ?_))) λx0 x0 h'=>h'))))))) λx0 x0 h'=>h')) λx0 x0 h'=>h')
  cases r with
  |ok f=>exact wpAny_pure ⟨rfl,h₅⟩
  |error e=>exact h₅
end
noncomputable def catV2(g:V->List V):List V->List V
 |[]=>[]
 |x::r=>g x++catV2 g r
inductive InnI(X:Cx)(σ:Gs)(f₀ f₁:FH)(hs:Heap)(tot:List V)(I I2 D L:Addr)(oI:Obj)(s:Shared)(j:Nat)(s':Shared):Prop
 |mk (ys done:List V) (vs:List Value) (k:Nat) (f:FH) (h:Heap) (mC:Str->Option Value) (t:Nat) (e1:j=ys.length) (e2:s'={s with heap:=h,toks:=t}) (h2:done++ys=tot) (hf:f₀.le f) (h3:Kp X f₁ hs f h) (h4:St X f σ h) (f2:f I2=none) (h5:f I=none) (h6:f D=none) (h7:f L=none)
   (hI:h.get? I=some oI) (h8:ItR X f h I2 ys) (h9:h.get? D=some (listOf (List.toArray vs) k)) (h10:VRs X f vs done) (h11:h.Ns L mC)
inductive OutI(X:Cx)(σ:Gs)(f₁:FH)(hs:Heap)(ys2:V->List V)(all tot:List V)(I D L:Addr)(s:Shared)(j:Nat)(s':Shared):Prop
 |mk (xs done:List V) (vs:List Value) (k:Nat) (f:FH) (h:Heap) (mC:Str->Option Value) (t:Nat) (e1:j=xs.length) (e2:s'={s with heap:=h,toks:=t}) (h1:∀z∈xs,z∈all) (h2:done++catV2 ys2 xs=tot) (h3:Kp X f₁ hs f h) (h4:St X f σ h) (h5:f I=none) (h6:f D=none) (h7:f L=none)
   (h8:ItR X f h I xs) (h9:h.get? D=some (listOf (List.toArray vs) k)) (h10:VRs X f vs done) (h11:h.Ns L mC)
section
variable {X:Cx} {A:Around} {n:Nat} {env:Env} {n₀:Bs} {vars:Vars} {ow:Option (Str × Ow)} {m cm:Str->Option Value} {f f₁ f₀:FH} {σ:Gs} {s:Shared} {h h' hs:Heap} {scope:Scope} {x y:Str}
theorem inner2{i1 i2:Expr}{px py pe pos:Pos}{I D L:Addr}{oI:Obj}(hh:A.handled=none)(C:Cz X env n₀)(R:Rel X env n₀ f₁ hs vars ow m cm)(S₁:St X f₁ σ hs)(F:CompFacts scope env.scope y)(hy:okName y=true)
  (dI:hs.get? I=none)(dD:hs.get? D=none)(dL:hs.get? L=none)(gI:¬X.G I)(gD:¬X.G D)(gL:¬X.G L)(nID:I≠D)(nIL:I≠L)(nDL:D≠L){tot:List V}{RR:Result->Shared->Prop}(hlen:tot.length≤4000)
  (hR:∀f' h' t' m' vs' k',f₀.le f'->Kp X f₁ hs f' h'->St X f' σ h'->f' I=none->f' D=none->f' L=none->h'.get? I=some oI->h'.get? D=some (listOf (List.toArray vs') k')->VRs X f' vs' tot->h'.Ns L m'->RR (.ok .next) {s with heap:=h',toks:=t'}):
  ∀(I2:Addr)(ys:List V)(done:List V)(vs:List Value)(k:Nat)(f:FH)(h:Heap)(mC:Str->Option Value)(t:Nat),hs.get? I2=none->¬X.G I2->I2≠I->I2≠D->I2≠L->done++ys=tot->f₀.le f->Kp X f₁ hs f h->St X f σ h->f I2=none->f I=none->f D=none->f L=none->
   h.get? I=some oI->ItR X f h I2 ys->h.get? D=some (listOf vs.toArray k)->VRs X f vs done->h.Ns L mC->
   codeAny X.M A (.compLoop (LC2 (.Name y pe) (.Name x px) i1 (.Name y py) i2 scope pos) 1 (.ref I2) (.ref D) (compEnvC scope (cellsC scope env) L env)) RR {s with heap:=h,toks:=t}:=by
 intro I2 ys done vs k f h mC t d2 g2 n2I n2D n2L h2 hf h3 h4 f2 h5 h6 h7 hI h8 h9 h10 h11
 have hst:∃o,hs.get? cStatics=some o:=by obtain⟨mc,⟨o,es,ep,e,r⟩,hm⟩:=S₁.nolim;exact⟨o,e⟩
 refine a1h (InnI X σ f₀ f₁ hs tot I I2 D L oI s) ?_ ys.length ⟨ys,done,vs,k,f,h,mC,t,rfl,rfl,h2,hf,h3,h4,f2,h5,h6,h7,hI,h8,h9,h10,h11⟩
 clear h2 hf h3 h4 f2 h5 h6 h7 hI h8 h9 h10 h11
 rintro j s' ⟨ys,done,vs,k,f,h,mC,t,rfl,rfl,h2,hf,h3,h4,f2,h5,h6,h7,hI,h8,h9,h10,h11⟩
 cases ys with
 |nil=>
  refine l0e hh h4 h8 λh' he=> ?_
  obtain⟨S',K'⟩:=h4.but h3 hst d2 g2 f2 he
  rw[List.append_nil] at h2
  subst h2
  exact hR f h' t mC vs k hf K' S' h5 h6 h7 (he _ _ (Ne.symm n2I) hI) (he _ _ (Ne.symm n2D) h9) h10 (h11.extBut he (Ne.symm n2L))
 |cons z ys=>
  refine h0z h4 h8 λv h' t' hv hs1 hit=> ?_
  obtain⟨S',K'⟩:=h4.but h3 hst d2 g2 f2 hs1.extBut
  have n1:h'.Ns L mC:=h11.sameBut hs1 (Ne.symm n2L)
  have d1:h'.get? D=some (listOf vs.toArray k):=(hs1.2 D (Ne.symm n2D)).trans h9
  have i1':h'.get? I=some oI:=(hs1.2 I (Ne.symm n2I)).trans hI
  refine wpAny_assign_Name (wpAny_storeName_local (env:=compEnvC scope (cellsC scope env) L env) (lookup_relabel_local F.loc) n1 (λh'' hn hs2=> ?_) (by show((relabel scope env).kind== .class||((relabel scope env).kind== .module&&_))=false;rw[show(relabel scope env).kind= .function from F.kind];rfl))
  obtain⟨S2,K2⟩:=S'.but K' hst dL gL h7 hs2.extBut
  have R2:=R.comp C F S₁ K2 dL gL h7 hn hv (by simp)
  refine a0d (s:={s with heap:=h'',toks:=t'+1}) ((k0a C F L).me none) R2 S2 hy (i0w ..) _ _ λw f3 hp3 t3 K3 S3 r3=> ?_
  have d2':h''.get? D=some (listOf vs.toArray k):=(hs2.2 D nDL).trans d1
  have d3:=K3.keep _ _ d2' gD
  have f3D:=K3.off d2' h6
  obtain⟨oI2,lI2⟩:=hit.live
  have lI2':h''.get? I2=some oI2:=(hs2.2 I2 n2L).trans lI2
  have f3I2:=K3.off lI2' f2
  have lI:h''.get? I=some oI:=(hs2.2 I nIL).trans i1'
  have f3I:=K3.off lI h5
  have f3L:f3 L=none:=by obtain⟨o,_,_,e,_⟩:=hn;exact K3.off e h7
  refine wpAny_list_append_plain (items:=vs.toArray) ⟨_,d3⟩ (λh4' hl hs4=> ?_) ?_
  ·obtain⟨n',hl⟩:=hl
   obtain⟨S4,K4⟩:=S3.but (K2.trans K3) hst dD gD f3D hs4.extBut
   refine⟨ys.length,Nat.lt_succ_self _,ys,done++[z],vs++[w],n',f3,h4',(λq=>if q=y then some v else mC q),t3,rfl,rfl,by simpa using h2,hf.trans K3.le,K4,S4,f3I2,f3I,f3D,f3L,?_,?_,?_,?_,?_⟩
   ·exact(hs4.2 I nID).trans (K3.keep _ _ lI gI)
   ·exact hit.keep K3.le λo e=>(hs4.2 I2 n2D).trans (K3.keep _ _ ((hs2.2 I2 n2L).trans e) g2)
   ·rw[hl];simp
   ·exact(h10.mono K3.le).append (.one r3)
   ·obtain⟨o,es,ep,e,r⟩:=hn
    exact⟨o,es,ep,(hs4.2 L (Ne.symm nDL)).trans (K3.keep _ _ e gL),r⟩
  ·rw[List.size_toArray,h10.length,line24]
   have:done.length+(ys.length+1)=tot.length:=by rw[←h2,List.length_append];rfl
   lia
theorem outer2{i1 i2:Expr}{px py pe pos:Pos}{I D L:Addr}(hh:A.handled=none)(C:Cz X env n₀)(R:Rel X env n₀ f₁ hs vars ow m cm)(S₁:St X f₁ σ hs)(F1:CompFacts scope env.scope x)(F2:CompFacts scope env.scope y)(hy:okName y=true)(hset:notSet i2=true)
  {it2:V->V}{ys2:V->List V}{all:List V}(hx2:∀z∈all,seqV (it2 z)=some (ys2 z))
  (HE:∀(L:Addr)(mC cm:Str->Option Value)(z:V)(f:FH)(s:Shared),z∈all->Cz X (compEnvC scope (cellsC scope env) L env) {n₀ with me:=none}->Rel X (compEnvC scope (cellsC scope env) L env) {n₀ with me:=none} f s.heap ((x,z)::keepF (freesL scope.names) vars) none mC cm->St X f σ s.heap->
   Tr X A (eval i2 (compEnvC scope (cellsC scope env) L env)) f σ s (it2 z) σ)
  (dI:hs.get? I=none)(dD:hs.get? D=none)(dL:hs.get? L=none)(gI:¬X.G I)(gD:¬X.G D)(gL:¬X.G L)(nID:I≠D)(nIL:I≠L)(nDL:D≠L){tot:List V}{RR:Result->Shared->Prop}(hlen:tot.length≤4000)
  (hR:∀f' h' t' m' vs' k',Kp X f₁ hs f' h'->St X f' σ h'->f' D=none->f' L=none->h'.get? D=some (listOf (List.toArray vs') k')->VRs X f' vs' tot->h'.Ns L m'->RR (.ok .next) {s with heap:=h',toks:=t'}):
  ∀(xs:List V)(done:List V)(vs:List Value)(k:Nat)(f:FH)(h:Heap)(mC:Str->Option Value)(t:Nat),(∀z∈xs,z∈all)->done++catV2 ys2 xs=tot->Kp X f₁ hs f h->St X f σ h->f I=none->f D=none->f L=none->
   ItR X f h I xs->h.get? D=some (listOf vs.toArray k)->VRs X f vs done->h.Ns L mC->
   codeAny X.M A (.compLoop (LC2 (.Name y pe) (.Name x px) i1 (.Name y py) i2 scope pos) 0 (.ref I) (.ref D) (compEnvC scope (cellsC scope env) L env)) RR {s with heap:=h,toks:=t}:=by
 intro xs done vs k f h mC t h1 h2 h3 h4 h5 h6 h7 h8 h9 h10 h11
 have hst:∃o,hs.get? cStatics=some o:=by obtain⟨mc,⟨o,es,ep,e,r⟩,hm⟩:=S₁.nolim;exact⟨o,e⟩
 refine u0x (OutI X σ f₁ hs ys2 all tot I D L s) ?_ xs.length ⟨xs,done,vs,k,f,h,mC,t,rfl,rfl,h1,h2,h3,h4,h5,h6,h7,h8,h9,h10,h11⟩ (λv=>c0q hset)
 clear h1 h2 h3 h4 h5 h6 h7 h8 h9 h10 h11
 rintro j s' ⟨xs,done,vs,k,f,h,mC,t,rfl,rfl,h1,h2,h3,h4,h5,h6,h7,h8,h9,h10,h11⟩
 cases xs with
 |nil=>
  refine l0e hh h4 h8 λh' he=> ?_
  obtain⟨S',K'⟩:=h4.but h3 hst dI gI h5 he
  have h2:done=tot:=by rw[←h2];exact(List.append_nil _).symm
  subst h2
  exact hR f h' t mC vs k K' S' h6 h7 (he _ _ (Ne.symm nID) h9) h10 (h11.extBut he (Ne.symm nIL))
 |cons z xs=>
  have hz:=h1 z (.head _)
  refine h0z h4 h8 λv h' t' hv hs1 hit=> ?_
  obtain⟨S',K'⟩:=h4.but h3 hst dI gI h5 hs1.extBut
  have n1:h'.Ns L mC:=h11.sameBut hs1 (Ne.symm nIL)
  have d1:h'.get? D=some (listOf vs.toArray k):=(hs1.2 D (Ne.symm nID)).trans h9
  refine wpAny_assign_Name (wpAny_storeName_local (env:=compEnvC scope (cellsC scope env) L env) (lookup_relabel_local F1.loc) n1 (λh'' hn hs2=> ?_) (by show((relabel scope env).kind== .class||((relabel scope env).kind== .module&&_))=false;rw[show(relabel scope env).kind= .function from F1.kind];rfl))
  obtain⟨S2,K2⟩:=S'.but K' hst dL gL h7 hs2.extBut
  have R2:=R.comp C F1 S₁ K2 dL gL h7 hn hv (by simp)
  refine HE L _ _ z f {s with heap:=h'',toks:=t'+1} hz ((k0a C F1 L).me none) R2 S2 _ _ λw f3 hp3 t3 K3 S3 r3=> ?_
  have d2:h''.get? D=some (listOf vs.toArray k):=(hs2.2 D nDL).trans d1
  have d3:=K3.keep _ _ d2 gD
  have f3D:=K3.off d2 h6
  obtain⟨oI,lI⟩:=hit.live
  have lI2:h''.get? I=some oI:=(hs2.2 I nIL).trans lI
  have f3I:=K3.off lI2 h5
  have f3L:f3 L=none:=by obtain⟨o,_,_,e,_⟩:=hn;exact K3.off e h7
  have n3:hp3.Ns L (λq=>if q=x then some v else mC q):=by
   obtain⟨o,es,ep,e,r⟩:=hn
   exact⟨o,es,ep,K3.keep _ _ e gL,r⟩
  have KK:=K2.trans K3
  have lI3:=K3.keep _ _ lI2 gI
  refine h0h (s:={s with heap:=hp3,toks:=t3}) S3 r3 (hx2 z hz) λJ h4' dJ gJ be hit2=> ?_
  dsimp only at dJ be
  have fJ:f3 J=none:=by
   exact b0i (λo q=>S3.isIn _ _ q) (dJ)
  have hsJ:hs.get? J=none:=by
   exact b0i (λo q=>KK.keep _ _ q gJ) (dJ)
  obtain⟨S4,K4⟩:=S3.but KK hst hsJ gJ fJ be
  have nJI:J≠I:=λq=>by rw[q,lI3] at dJ;cases dJ
  have nJD:J≠D:=λq=>by rw[q,d3] at dJ;cases dJ
  have nJL:J≠L:=λq=>by
   obtain⟨o,_,_,e,_⟩:=n3
   rw[q,e] at dJ;cases dJ
  have h2':(done++ys2 z)++catV2 ys2 xs=tot:=by rw[←h2,List.append_assoc];rfl
  have inn:∀(t:Nat),codeAny X.M A (.compLoop (LC2 (.Name y pe) (.Name x px) i1 (.Name y py) i2 scope pos) 1 (.ref J) (.ref D) (compEnvC scope (cellsC scope env) L env)) (λr s5=>match r with
      | .ok _=>∃m,m<(z::xs).length∧OutI X σ f₁ hs ys2 all tot I D L s m s5
      | .error e=>cameBackBy X.M A (compEnvC scope (cellsC scope env) L env) (notedBy X.M A (compEnvC scope (cellsC scope env) L env) λe s'=>RR (.error e) s') e s5) {s with heap:=h4',toks:=t}:=by
   intro t
   refine inner2 (f₀:=f3) (oI:=oI) (tot:=done++ys2 z) hh C R S₁ F2 hy dI dD dL gI gD gL nID nIL nDL (by rw[←h2',List.length_append] at hlen;lia) (λf' h' t' m' vs' k' le K' S' fI' fD' fL' lI' lD' r' n'=> ?_) J (ys2 z) done vs k f3 h4' _ t hsJ gJ nJI nJD nJL rfl (FH.le.refl _) K4 S4 fJ f3I f3D f3L (be _ _ (Ne.symm nJI) lI3) hit2 (be _ _ (Ne.symm nJD) d3) (h10.mono K3.le) (n3.extBut be (Ne.symm nJL))
   refine⟨xs.length,Nat.lt_succ_self _,xs,done++ys2 z,vs',k',f',h',m',t',rfl,rfl,λq hq=>h1 q (.tail _ hq),h2',K',S',fI',fD',fL',?_,lD',r',n'⟩
   exact hit.keep (K3.le.trans le) λo e=>by rw[lI] at e;cases e;exact lI'
  exact t0t (inn _) (f0c (s:={s with heap:=h4',toks:=t3}) hit2 (inn _))
end
section
variable {X:Cx} {A:Around} {n:Nat} {env:Env} {n₀:Bs} {vars:Vars} {ow:Option (Str × Ow)} {m cm:Str->Option Value} {f f₁ f₀:FH} {σ:Gs} {s:Shared} {h h' hs:Heap} {scope:Scope} {x y:Str} {st₁:Sx}
theorem v0j{i1 i2:Expr}{px py pe pos:Pos}{use:Option (Value->Sem Unit)}(hh:A.handled=none)(C:Cz X env n₀)(R:Rel X env n₀ f s.heap vars ow m cm)(F1:CompFacts scope env.scope x)(F2:CompFacts scope env.scope y)(hy:okName y=true)(hset1:notSet i1=true)(hset:notSet i2=true)
  {it2:V->V}{ys2:V->List V}{it:V}{all:List V}(hx2:∀z∈all,seqV (it2 z)=some (ys2 z))
  (HE:∀(L:Addr)(mC cm:Str->Option Value)(z:V)(f:FH)(s:Shared),z∈all->Cz X (compEnvC scope (cellsC scope env) L env) {n₀ with me:=none}->Rel X (compEnvC scope (cellsC scope env) L env) {n₀ with me:=none} f s.heap ((x,z)::keepF (freesL scope.names) vars) none mC cm->St X f σ s.heap->
   Tr X A (eval i2 (compEnvC scope (cellsC scope env) L env)) f σ s (it2 z) σ)
  (HI:Tr X A (eval i1 env) f σ s it σ)(hx:seqV it=some all)(hlen:(catV2 ys2 all).length≤4000){Q:Value->Shared->Prop}{E:Value->Shared->Prop}
  (hQ:∀D L f' h' t' m',Kp X f s.heap f' h'->St X f' σ h'->VR X f' (.ref D) (.lst (catV2 ys2 all) (catV2 ys2 all).length)->s.heap.get? L=none->¬X.G L->f' L=none->h'.Ns L m'->compPost X.M A E use Q (.ref D) L (.ok .next) {s with heap:=h',toks:=t'}):
  wpAny X.M A (comprehension (LC2 (.Name y pe) (.Name x px) i1 (.Name y py) i2 scope pos) scope env (firstIterPos [⟨.Name x px,i1,[],0⟩,⟨.Name y py,i2,[],0⟩] pos) (newList []) (firstAsync [⟨.Name x px,i1,[],0⟩,⟨.Name y py,i2,[],0⟩]) (firstIter [⟨.Name x px,i1,[],0⟩,⟨.Name y py,i2,[],0⟩] env) use) Q E s:=by
 refine wpAny_comprehension_free (g:=⟨.Name x px,i1,[],0⟩) (gs:=[⟨.Name y py,i2,[],0⟩]) rfl (λv=>c0q hset1) (d0y (b0v C F1)) F1.kind F1.names (HI _ _ λv f1 h1 t1 K1 S1 hv=> ?_)
 have R1:=R.kp' K1
 refine h0h (s:={s with heap:=h1,toks:=t1}) S1 hv hx λI h2 dI gI be hit=> ?_
 have hst:∃o,h1.get? cStatics=some o:=by obtain⟨mc,⟨o,es,ep,e,r⟩,hm⟩:=S1.nolim;exact⟨o,e⟩
 have fI:f1 I=none:=by
  exact b0i (λo q=>S1.isIn _ _ q) (show h1.get? I=none from dI)
 obtain⟨S2,K2⟩:=S1.but Kp.refl hst dI gI fI be
 obtain⟨oI,lI⟩:=hit.live
 refine wpAny_newList ?_ (by simp)
 refine wpAny_newFunctionEnv F1.nocell (by intro y hy;simp at hy) (λh3 hn hs3=> ?_) F1.kind
 dsimp only at hn hs3 ⊢
 have gsz:∀{h:Heap}{σ:Gs}{f:FH},St X f σ h->¬X.G h.objs.size:=λS hg=>Nat.lt_irrefl _ (S.inv.lt _ hg)
 generalize hD:h2.objs.size=D at hn hs3 ⊢
 generalize hH:h2.push {cls:=.type "list",data:=.seq ([]:List Value).toArray}=H at hn hs3 ⊢
 have dD2:h2.get? D=none:=hD▸dead h2
 have gD:¬X.G D:=hD▸gsz S2
 have lD:H.get? D=some (listOf ([]:List Value).toArray 0):=by rw[←hH,←hD];exact Heap.get?_push_size _ rfl
 have up2:∀b o,h2.get? b=some o->H.get? b=some o:=λb o e=>by rw[←hH];exact Heap.get?_push_of_some _ e
 have dead1:∀{a},h2.get? a=none->h1.get? a=none:=λ{a} e=>by
  cases q:h1.get? a with
  |none=>rfl
  |some o=>
   have:=be a o (λz=>by rw[z,show h1.get? I=none from dI] at q;cases q) q
   rw[e] at this;cases this
 have fD:f1 D=none:=by
  exact b0i (λo q=>S2.isIn _ _ q) (dD2)
 have nID:I≠D:=λq=>by rw[q,dD2] at lI;cases lI
 obtain⟨S3,K3⟩:=S2.but K2 hst (dead1 dD2) gD fD (h':=H) λb o x0 e=>up2 b o e
 generalize hL:H.objs.size=L at hn hs3 ⊢
 have dL3:H.get? L=none:=hL▸dead H
 have dL2:h2.get? L=none:=by
  exact b0i (λo q=>up2 _ _ q) (dL3)
 have gL:¬X.G L:=hL▸gsz S3
 have fL:f1 L=none:=by
  exact b0i (λo q=>S3.isIn _ _ q) (dL3)
 have nIL:I≠L:=λq=>by rw[q,dL2] at lI;cases lI
 have nDL:D≠L:=λq=>by rw[q,dL3] at lD;cases lD
 have up3:∀b o,b≠L->H.get? b=some o->h3.get? b=some o:=λb o ne e=>by
  refine(hs3.2 b ne).trans ?_
  exact Heap.get?_push_of_some _ e
 obtain⟨S4,K4⟩:=S3.but K3 hst (dead1 dL2) gL fL (h':=h3) up3
 have hit4:ItR X f1 h3 I all:=hit.keep (FH.le.refl _) λo e=>up3 _ _ nIL (up2 _ _ e)
 have lD4:=up3 _ _ nDL lD
 have loop:∀t,codeAny X.M A (.compLoop (LC2 (.Name y pe) (.Name x px) i1 (.Name y py) i2 scope pos) 0 (.ref I) (.ref D) (compEnvC scope (cellsC scope env) L env)) (compPost X.M A E use Q (.ref D) L) {s with heap:=h3,toks:=t}:=by
  intro t
  refine outer2 (s:=s) (tot:=catV2 ys2 all) hh C R1 S1 F1 F2 hy hset hx2 HE dI (dead1 dD2) (dead1 dL2) gI gD gL nID nIL nDL hlen ?_ all [] [] 0 f1 h3 _ t (λz hz=>hz) rfl K4 S4 fI fD fL hit4 lD4 .nil hn
  intro f5 h5 t5 m5 vs5 k5 K5 S5 f5D f5L l5 r5 n5
  have le:=FH.put_le'' (o:=listOf vs5.toArray k5) f5D
  refine hQ D L (f5.put D (listOf vs5.toArray k5)) h5 t5 m5 ?_ ?_ (.lst (FH.put_self ..) (r5.mono le) (Nat.le_refl _)) ?_ gL ?_ n5
  ·refine⟨λb o e g=>K5.keep _ _ (K1.keep _ _ e g) g,(K1.le.trans K5.le).trans le,λb o e=> ?_⟩
   unfold FH.put at e
   split at e
   ·rename_i q;subst q
    refine .inr ⟨?_,gD⟩
    exact b0i (λo' q=>K1.keep _ _ q gD) (dead1 dD2)
   ·exact(K1.trans K5).new b o e
  ·refine⟨λb o e=>le _ _ (S5.base b o e),λb o e=> ?_,S5.inv,λb hb=> ?_,S5.nolim⟩
   ·unfold FH.put at e
    split at e
    ·rename_i q;subst q;cases e;exact l5
    ·exact S5.isIn _ _ e
   ·unfold FH.put
    rw[if_neg (show b≠D from λq=>gD (by rw[←q];exact hb))];exact S5.off b hb
  ·cases q:s.heap.get? L with
   |none=>rfl
   |some o=>have:=K1.keep _ _ q gL;rw[dead1 dL2] at this;cases this
  ·unfold FH.put
   rw[if_neg (Ne.symm nDL)];exact f5L
 exact codeAny_compStart_list (loop _) (f0c (s:={s with heap:=h3,toks:=_}) hit4 (loop _))
theorem m0j{i1 i2:Expr}{px py pe p cpos pos:Pos}{z:Str}{st:Sx}(hA:A.handled=none)(C:Cz X env n₀)(R:Rel X env n₀ f s.heap vars none m cm)(S:St X f σ s.heap)(F1:CompFacts scope env.scope x)(F2:CompFacts scope env.scope y)(hy:okName y=true)(hset1:notSet i1=true)(hset:notSet i2=true)
  {it2:V->V}{ys2:V->List V}{it:V}{all:List V}(hx2:∀z∈all,seqV (it2 z)=some (ys2 z))
  (HE:∀(L:Addr)(mC cm:Str->Option Value)(z:V)(f:FH)(s:Shared),z∈all->Cz X (compEnvC scope (cellsC scope env) L env) {n₀ with me:=none}->Rel X (compEnvC scope (cellsC scope env) L env) {n₀ with me:=none} f s.heap ((x,z)::keepF (freesL scope.names) vars) none mC cm->St X f σ s.heap->
   Tr X A (eval i2 (compEnvC scope (cellsC scope env) L env)) f σ s (it2 z) σ)
  (HI:Tr X A (eval i1 env) f σ s it σ)(hx:seqV it=some all)(hlen:(catV2 ys2 all).length≤4000)(hsw:swapsWith (LC2 (.Name y pe) (.Name x px) i1 (.Name y py) i2 scope cpos) (some (.Name z p)) pos.line env=pure true)
  (ha:asgN env.scope z (.lst (catV2 ys2 all) (catV2 ys2 all).length) ⟨vars,none,σ⟩=some st₁):TrS X A env n₀ (exec (.Assign [.Name z p] (LC2 (.Name y pe) (.Name x px) i1 (.Name y py) i2 scope cpos) pos) env) f st s .next st₁:=by
 intro Q E hQ
 rw[exec_Assign_Name_used _ _ _ _ hsw]
 refine wpAny_bind (wpAny_standAt (wpAny_bind ?_))
 show wpAny X.M A (do let _ ←comprehension (LC2 (.Name y pe) (.Name x px) i1 (.Name y py) i2 scope cpos) scope env (firstIterPos [⟨.Name x px,i1,[],0⟩,⟨.Name y py,i2,[],0⟩] cpos) (newList []) (firstAsync [⟨.Name x px,i1,[],0⟩,⟨.Name y py,i2,[],0⟩]) (firstIter [⟨.Name x px,i1,[],0⟩,⟨.Name y py,i2,[],0⟩] env) (some (assign (.Name z p) env))) _ _ s
 refine wpAny_bind (wpAny_mono (v0j (use:=some (assign (.Name z p) env)) (Q:=λx0 s'=>Q .next s') hA C R F1 F2 hy hset1 hset hx2 HE HI hx hlen
  λD L f' h' t' m' K' S' hv dL gL fL hn=> ?_) (λx0 s' hq=>wpAny_pure (wpAny_pure hq)) λx0 x0 e=>e)
 obtain⟨oL,es,ep,lL,hns⟩:=hn
 have R1:=R.pinAt K' dL gL fL lL
 refine wpAny_bind (wpAny_standAt (h0r (s:={s with heap:=h',toks:=t'}) (C.pins _) ha hv R1 S' _ _ λh4 t4 m4 cm4 S4 R4=> ?_))
 have lL4:=(R4.pin _ (.head _)).1
 refine⟨m',⟨oL,es,ep,lL4,hns⟩,λh5 hs=> ?_⟩
 obtain⟨R5,S5⟩:=R4.turn (C.pins _) S4 (I:=L) (.inr ⟨_,.head _,rfl⟩) hs.extBut (B2:=n₀) rfl rfl λp hp=>.inl ⟨.tail _ hp,λq=>by
  have:=(R.pin p hp).1;rw[q,dL] at this;cases this⟩
 exact hQ _ f' h5 t4 m4 cm4 .next K'.le S5 R5
end
noncomputable def nlCond:Expr:=((Expr.Name ("len") ⟨572,11,572,14⟩).Call [Expr.Name ("ahead") ⟨572,15,572,20⟩] [] ⟨572,11,572,21⟩).Compare [CmpOp.Lt] [(Expr.Name ("show") ⟨572,24,572,28⟩).Attribute ("depth") ⟨572,24,572,34⟩] ⟨572,11,572,34⟩
noncomputable def nlArg:Expr:=(Expr.Name ("list_lines") ⟨573,25,573,35⟩).Call [Expr.Name ("show") ⟨573,36,573,40⟩,Expr.Name ("items") ⟨573,42,573,47⟩,(Expr.Name ("ahead") ⟨573,49,573,54⟩).BinOp Operator.Add (Expr.Name ("mark") ⟨573,57,573,61⟩) ⟨573,49,573,61⟩] [] ⟨573,25,573,62⟩
noncomputable def nlExt:Stmt:=.Expr (((Expr.Name ("found") ⟨573,12,573,17⟩).Attribute ("extend") ⟨573,12,573,24⟩).Call [nlArg] [] ⟨573,12,573,63⟩) ⟨573,12,573,63⟩
noncomputable def nlCond2:Expr:=(Expr.Name ("items") ⟨574,13,574,18⟩).Compare [CmpOp.NotEq] [Expr.List [] ⟨574,22,574,24⟩] ⟨574,13,574,24⟩
noncomputable def nlCut:Stmt:=.Assign [(Expr.Name ("found") ⟨575,12,575,17⟩).Subscript (Expr.Constant (Const.int (Int.ofNat 0)) 0 ⟨575,18,575,19⟩) ⟨575,12,575,20⟩]
 (((Expr.Name ("found") ⟨575,23,575,28⟩).Subscript (Expr.Constant (Const.int (Int.ofNat 0)) 0 ⟨575,29,575,30⟩) ⟨575,23,575,31⟩).BinOp Operator.Add (Expr.Name ("CUT") ⟨575,34,575,37⟩) ⟨575,23,575,37⟩) ⟨575,12,575,37⟩
noncomputable def nlIf:Stmt:=.If nlCond [nlExt] [.If nlCond2 [nlCut] [] ⟨574,8,575,37⟩] ⟨572,8,575,37⟩
noncomputable def nlEl:Expr:=(Expr.Name ("ahead") ⟨570,13,570,18⟩).BinOp Operator.Add ((Expr.Name ("node_text") ⟨570,21,570,30⟩).Call [Expr.Name ("show") ⟨570,31,570,35⟩,Expr.Name ("node") ⟨570,37,570,41⟩] [] ⟨570,21,570,42⟩) ⟨570,13,570,42⟩
noncomputable def nlS1:Stmt:=.Assign [Expr.Name ("found") ⟨570,4,570,9⟩] (Expr.List [nlEl] ⟨570,12,570,43⟩) ⟨570,4,570,43⟩
noncomputable def nlTgt:List Expr:=[Expr.Name ("mark") ⟨571,8,571,12⟩,Expr.Name ("items") ⟨571,14,571,19⟩]
noncomputable def nlIt:Expr:=(Expr.Name ("lists_of") ⟨571,23,571,31⟩).Call [Expr.Name ("node") ⟨571,32,571,36⟩] [] ⟨571,23,571,37⟩
noncomputable def nlS2:Stmt:=.For (Expr.Tuple nlTgt 0 ⟨571,8,571,19⟩) nlIt [nlIf] [] ⟨571,4,575,37⟩
noncomputable def nlS3:Stmt:=.Return (some (Expr.Name ("found") ⟨576,11,576,16⟩)) ⟨576,4,576,16⟩
theorem body1038:d1038.body=[nlS1,nlS2,nlS3]:=by kernel_rfl
theorem f1038:findE 1038 fns=some e1038:=by kernel_rfl
theorem f1045:findE 1045 fns=some e1045:=by kernel_rfl
section
variable (d b:Nat) (nd:Nd) (a:Str) (σ:Gs) (LR:Str->List Nd->List Str)
noncomputable def VN:Vars:=[("show",.abs (.show_ d b)),("node",.abs (.node nd)),("ahead",.str [.h a 20])]
theorem vars1038:varsOf d1038 [.abs (.show_ d b),.abs (.node nd),.str [.h a 20]] e1038.dxs=VN d b nd a:=by kernel_rfl
theorem len1038:Nat.ble [V.abs (.show_ d b),.abs (.node nd),.str [.h a 20]].length e1038.D.names.length=true∧Nat.ble e1038.dxs.length e1038.D.names.length=true∧Nat.ble e1038.D.names.length ([V.abs (.show_ d b),.abs (.node nd),.str [.h a 20]].length+e1038.dxs.length)=true:=⟨by kernel_rfl,by kernel_rfl,by kernel_rfl⟩
theorem nk1:look "show" (VN d b nd a)=some (.abs (.show_ d b)):=by kernel_rfl
theorem nk2:look "node" (VN d b nd a)=some (.abs (.node nd)):=by kernel_rfl
theorem nk3:look "ahead" (VN d b nd a)=some (.str [.h a 20]):=by kernel_rfl
theorem nk7(vs:Vars)(y:V):look "show" (("found",y)::vs)=look "show" vs∧look "ahead" (("found",y)::vs)=look "ahead" vs∧look "node" (("found",y)::vs)=look "node" vs:=⟨by kernel_rfl,by kernel_rfl,by kernel_rfl⟩
theorem w0j(vs:Vars)(F:List V)(i:Nat):evSs (evS KL [] d1038.sc 80) [nlS3] ⟨vs,some ("found",.lst F i),σ⟩=some (.ret (.lst F i),⟨("found",.lst F i)::vs,none,σ⟩):=by kernel_rfl
theorem nl_g1:kindG d1038.sc "node_text"=true∧look "node_text" KL.GT=some (.con (.ref 1024)):=⟨by kernel_rfl,by kernel_rfl⟩
theorem nl_g2:kindG d1038.sc "lists_of"=true∧look "lists_of" KL.GT=some (.con (.ref 1031)):=⟨by kernel_rfl,by kernel_rfl⟩
theorem nl_g3:kindG d1038.sc "list_lines"=true∧look "list_lines" KL.GT=some (.con (.ref 1045)):=⟨by kernel_rfl,by kernel_rfl⟩
theorem nl_g4:kindG d1038.sc "CUT"=true∧look "CUT" KL.GT=some (.str (wS " []")):=⟨by kernel_rfl,by kernel_rfl⟩
theorem nl_a1:asgN d1038.sc "found" .any ⟨VN d b nd a,none,σ⟩=some ⟨("found",.any)::VN d b nd a,none,σ⟩:=by kernel_rfl
theorem nl_op(t:Str):opV .Add (.str [.h a 20]) (.str [.h t 400])=some (.str ([.h a 20]++[.h t 400])):=by kernel_rfl
theorem w0v:opV .Add (.str [.h a 20]) (.str (wS "."))=some (.str ([.h a 20]++wS "."))∧opV .Add (.str [.h a 20]) (.str (wS "|"))=some (.str ([.h a 20]++wS "|")):=⟨by kernel_rfl,by kernel_rfl⟩
end
theorem strAdd{a b:Wd}(h:wlen a+wlen b≤16777216):opV .Add (.str a) (.str b)=some (.str (a++b)):=by
 unfold opV opP
 rw[show binVP .Add (.str a) (.str b)=onT (Nat.ble (wlen a+wlen b) 16777216) _ from rfl,t0c (Nat.ble_eq_true_of_le h)]
 rfl
theorem marks{nd:Nd}:∀p∈listsOf nd,p.1=wS "."∨p.1=wS "|":=by
 cases nd<;>first|exact a0u|exact a0m (.inl rfl) a0u|exact a0m (.inl rfl) (a0m (.inr rfl) a0u)
theorem f0a{w:Wd}(h:w=wS "."∨w=wS "|"):(wden w).length=1:=by
 rcases h with rfl|rfl<;>kernel_rfl
section
variable {X:Cx} {A:Around} {n:Nat} {env:Env} {n₀:Bs} {vars vars':Vars} {m cm:Str->Option Value} {f f':FH} {σ:Gs} {s:Shared} {st st' st₁:Sx} {fl:Fl} {h h':Heap} {d b:Nat} {nd:Nd} {a:Str}
theorem TrS.single{e:Stmt}(H:TrS X A env n₀ (exec e env) f st s .next st'):TrS X A env n₀ (execs [e] env) f st s .next st':=by
 intro Q E hQ
 refine wpAny_execs_cons (H _ _ λfl' f1 hp1 t1 m1 cm1 r1 K1 S1 R1=> ?_)
 cases r1
 exact wpAny_execs_nil (hQ .next f1 hp1 t1 m1 cm1 .next K1 S1 R1)
theorem TrS.nil(R:Rel X env n₀ f s.heap st.vars st.ow m cm)(S:St X f st.σ s.heap):TrS X A env n₀ (execs [] env) f st s .next st:=λQ E hQ=>wpAny_execs_nil (hQ _ f s.heap s.toks m cm .next (FH.le.refl f) S R)
theorem e1n(hK:IsX X)(C:Cz X env n₀)(hsc:env.scope=d1038.sc){S0:Str}{c i:Nat}(R:Rel X env n₀ f s.heap vars (some ("found",.lst [.str [.h S0 c]] i)) m cm)(S:St X f σ s.heap)(hc:c≤900):
  TrS X A env n₀ (exec nlCut env) f st s .next ⟨vars,some ("found",.lst [.str [.h (S0++cutS) (c+3)]] 1),σ⟩:=by
 intro Q E hQ
 obtain⟨ov,hov,av,vs,kn,rfl,g1,g2,g3,g4⟩:=R.own _ _ rfl
 obtain⟨v,rfl,hv⟩:=g2.one'
 have gl:=nl_g4
 refine wpAny_Assign_Subscript (wpAny_BinOp (rd C R rfl hov ⟨_,g1,rfl,kn,rfl⟩ rfl (by decide) ?_)) (a0r rfl)
 refine b0j (s:={s with toks:=s.toks+1}) (u0s (n:=0) hK).toEcOK C S (by rw[hsc];exact gl.1) gl.2 rfl _ _ λvb f1 h1 t1 K1 S1 r1=> ?_
 have h3':wlen (wS " []")=3:=by kernel_rfl
 have hl:wlen [.h S0 c]+wlen (wS " []")≤16777216:=by rw[h3'];show c+0+3≤16777216;lia
 refine x0c (s:={s with heap:=h1,toks:=t1}) S1 (hv.mono K1.le) r1 (strAdd hl) _ _ λvc f2 h2 t2 K2 S2 r2=> ?_
 have K:Kp X f s.heap f2 h2:=K1.trans K2
 have R2:=R.kp' K
 have g1':=K.keep _ _ g1 g4.1.ng
 refine ld (s:={s with heap:=h2,toks:=t2}) C R2 rfl hov (wpAny_Constant_int ?_)
 refine e0c (s:={s with heap:=h2,toks:=t2+1}) g1' (by decide) (by show(0:Int)<((1:Nat):Int);decide) (by decide) λh3 n' l3 hs=> ?_
 obtain⟨R3,S3⟩:=R2.mut (ow':=some ("found",.lst [.str [.h (S0++cutS) (c+3)]] 1)) C S2 (g4.kp g1 K) hs λx' o' e=>by
  cases e
  refine⟨_,hov,av,[vc],n',rfl,l3,.one (b0b r2 (by rw[a0c,a0e];rfl) ?_),Nat.le_refl _,g4.kp g1 K⟩
  have h1:=a0s (d0o r2)
  rw[a0c,a0e,b0d] at h1
  have:wlen (wS " []")=3:=by kernel_rfl
  have h2:wlen [.h S0 c]=c:=rfl
  show(S0++wden (wS " []")).length≤c+3
  lia
 exact hQ _ f2 h3 _ m cm .next K.le S3 R3
end
noncomputable def cutQ(S:Str):List Nd->Str
 |[]=>S
 |_=>S++cutS
theorem l0n:∀(l k:List (Wd × List Nd))(S:Str),cutR S (l++k)=cutR (cutR S l) k
 |[],_,_=>rfl
 |_::l,k,_=>l0n l k _
theorem h0m:cutS.length=3:=by kernel_rfl
theorem s0p(S:Str):∀l:List Nd,(cutQ S l).length≤S.length+3
 |[]=>Nat.le_add_right ..
 |_::_=>Nat.le_of_eq ((b0a ..).trans (congrArg _ h0m))
theorem k0n(S:Str):∀p:Wd × List Nd,cutR S [p]=cutQ S p.2
 |(_,[])=>rfl
 |(_,_::_)=>rfl
theorem e0x:∀(l:List (Wd × List Nd))(S:Str),(cutR S l).length≤S.length+3 * l.length
 |[],_=>Nat.le_refl _
 |p::l,S=>Nat.le_trans (e0x l (cutR S [p])) (Nat.le_trans (Nat.add_le_add_right (k0n S p▸s0p S p.2) _) (Nat.le_of_eq (by rw[Nat.add_assoc,List.length_cons,Nat.mul_succ,Nat.add_comm 3])))
theorem h0e(LR:Str->List Nd->List Str)(a:Str):∀l k:List (Wd × List Nd),subR LR a (l++k)=subR LR a l++subR LR a k
 |[],_=>rfl
 |_::l,k=>(congrArg _ (h0e LR a l k)).trans (List.append_assoc ..).symm
theorem s0c(LR:Str->List Nd->List Str)(a:Str)(p:Wd × List Nd):subR LR a [p]=LR (a++wden p.1) p.2:=List.append_nil _
theorem i0n{LR:Str->List Nd->List Str}{a:Str}{L done rest:List (Wd × List Nd)}{p:Wd × List Nd}(e:L=done++p::rest):subR LR a (done++[p])=subR LR a done++LR (a++wden p.1) p.2∧(subR LR a done++LR (a++wden p.1) p.2).length≤(subR LR a L).length:=by
 have h:subR LR a (done++[p])=subR LR a done++LR (a++wden p.1) p.2:=(h0e ..).trans (congrArg _ (s0c ..))
 refine⟨h,?_⟩
 rw[e,List.append_cons,h0e,h,List.length_append (bs:=subR LR a rest)]
 exact Nat.le_add_right ..
theorem j0b(S:Str)(done:List (Wd × List Nd))(p:Wd × List Nd):cutR S (done++[p])=cutQ (cutR S done) p.2:=(l0n ..).trans (k0n ..)
theorem g0t{S:Str}{L done rest:List (Wd × List Nd)}{p:Wd × List Nd}{n:Nat}(e:L=done++p::rest)(h:S.length+3 * L.length≤n):(cutR S done).length+3≤n:=by
 have h1:=e0x done S
 rw[e,List.length_append,Nat.mul_add,←Nat.add_assoc] at h
 exact Nat.le_trans (Nat.add_le_add h1 (Nat.le_mul_of_pos_right 3 (Nat.succ_pos _))) h
theorem c0p(l:List Str):(rowsL l).length=l.length:=List.length_map ..
theorem i0m:∀nd:Nd,(listsOf nd).length≤2:=λnd=>by cases nd<;>exact Nat.le_of_ble_eq_true rfl
section
variable (d b:Nat) (a:Str) (σ:Gs)
noncomputable def V0:Vars:=[("show",.abs (.show_ d b)),("ahead",.str [.h a 20])]
noncomputable def VT(w:Wd)(l:List Nd):Vars:=("items",.abs (.items l))::("mark",.str w)::V0 d b a
theorem w0o(o:Ow)(w:Wd)(l:List Nd):asg d1038.sc (.Tuple nlTgt 0 ⟨571,8,571,19⟩) (.tup [.str w,.abs (.items l)]) ⟨V0 d b a,some ("found",o),σ⟩=some ⟨VT d b a w l,some ("found",o),σ⟩:=by kernel_rfl
theorem q0d(w:Wd)(l:List Nd):ev KL 80 d1038.sc (VT d b a w l) true nlCond σ=some (.bool (decide (Int.ofNat a.length<Int.ofNat d)),σ):=by kernel_rfl
theorem l0f(w:Wd)(x:Nd)(l:List Nd):ev KL 80 d1038.sc (VT d b a w []) true nlCond2 σ=some (.bool false,σ)∧ev KL 80 d1038.sc (VT d b a w (x::l)) true nlCond2 σ=some (.bool true,σ):=⟨by kernel_rfl,by kernel_rfl⟩
theorem vt1(w:Wd)(l:List Nd):look "mark" (VT d b a w l)=some (.str w):=by kernel_rfl
theorem vt2(w:Wd)(l:List Nd):look "items" (VT d b a w l)=some (.abs (.items l)):=by kernel_rfl
theorem vt3(w:Wd)(l:List Nd):look "show" (VT d b a w l)=some (.abs (.show_ d b)):=by kernel_rfl
theorem vt4(w:Wd)(l:List Nd):look "ahead" (VT d b a w l)=some (.str [.h a 20]):=by kernel_rfl
end
section
variable {X:Cx} {A:Around} {n:Nat} {env:Env} {n₀:Bs} {vars:Vars} {m cm:Str->Option Value} {f f':FH} {σ:Gs} {s:Shared} {st st':Sx} {fl:Fl} {d b:Nat} {nd:Nd} {a:Str} {LR:Str->List Nd->List Str}
theorem markOp{w:Wd}(h:w=wS "."∨w=wS "|"):opV .Add (.str [.h a 20]) (.str w)=some (.str ([.h a 20]++w)):=by
 rcases h with rfl|rfl
 ·exact(w0v a).1
 ·exact(w0v a).2
theorem bA_ok(hK:IsX X)(hA:Room X A n)(hsc:env.scope=d1038.sc)(hlt:a.length<d)(ha:a.length≤13){w:Wd}{l:List Nd}{F:List V}{K:List Str}(hm:w=wS "."∨w=wS "|")(hc:(F++rowsL K).length≤30000)
  (IH:FnV X n (.ref 1045) [.abs (.show_ d b),.abs (.items l),.str [.h (a++wden w) 20]] σ (rowsV K) σ):BodyOK X A env [nlIf] ⟨VT d b a w l,some ("found",.lst F 30000),σ⟩ .next ⟨V0 d b a,some ("found",.lst (F++rowsL K) 30000),σ⟩:=λB f s m cm C R S=>by
 have EK:KxOK X n KL:=u0s hK
 have hcd:ev KL 80 env.scope (VT d b a w l) true nlCond σ=some (.bool true,σ):=by rw[hsc];exact(q0d ..).trans (congrArg (λz=>some (V.bool z,σ)) (decide_eq_true (Int.ofNat_lt.mpr hlt)))
 refine TrS.weakE (vs:=VT d b a w l) (TrS.owLe (k:=F.length+(rowsL K).length) (TrS.single (f0e (b:=true) C R (λQ E hQ=>(b0q EK hA 80 env B (VT d b a w l) _ m cm C).2 nlCond σ _ σ f s hcd R S Q E hQ) λf1 s1 R1 S1=>TrS.single (d0l C R1 S1 rfl rfl rfl (j:=30000) (λs2 R2 S2=> ?_) ?_))) hc) (.same (vt3 ..) (.same (vt4 ..) .nil))
 ·have gl:=nl_g3
  refine b0p (c:=nlArg) (σ₁:=σ) hA (b0j EK.toEcOK C S2 (by rw[hsc];exact gl.1) gl.2 rfl) rfl (xs:=[.abs (.show_ d b),.abs (.items l),.str ([.h a 20]++w)]) (λf3 h3 t3 K3 S3=> ?_) (IH.arg λf vs hv=> ?_)
  ·refine a0b (a0d C (R2.kp' K3) S3 rfl (vt3 d b a w l)) λf4 h4 t4 K4 S4=> ?_
   refine a0b (a0d C ((R2.kp' K3).kp' K4) S4 rfl (vt2 d b a w l)) λf5 h5 t5 K5 S5=> ?_
   exact a0b (b0e (a0d C (((R2.kp' K3).kp' K4).kp' K5) S5 rfl (vt4 d b a w l)) (λf6 h6 t6 K6 S6=>a0d C ((((R2.kp' K3).kp' K4).kp' K5).kp' K6) S6 rfl (vt1 d b a w l)) (markOp hm)) λf7 h7 t7 K7 S7=>b0f S7
  ·obtain⟨u,v,x,rfl,g1,g2,g3⟩:=hv.three'
   refine .cons g1 (.cons g2 (.one (b0b g3 (by rw[a0c,a0e]) ?_)))
   rw[b0a,f0a hm]
   exact Nat.le_trans (Nat.succ_le_succ ha) (by decide)
 ·exact Nat.le_trans (Nat.le_of_eq List.length_append.symm) (Nat.le_trans hc (by decide))
theorem bB_ok(hK:IsX X)(hA:Room X A n)(hsc:env.scope=d1038.sc)(hlt:¬a.length<d){w:Wd}{S0:Str}(hS:S0.length+3≤900):∀l:List Nd,BodyOK X A env [nlIf] ⟨VT d b a w l,some ("found",.lst [.str [.h S0 900]] 1),σ⟩ .next ⟨V0 d b a,some ("found",.lst [.str [.h (cutQ S0 l) 900]] 1),σ⟩:=λl B f s m cm C R S=>by
 have EK:KxOK X n KL:=u0s hK
 have hcd:ev KL 80 env.scope (VT d b a w l) true nlCond σ=some (.bool false,σ):=by rw[hsc];exact(q0d ..).trans (congrArg (λz=>some (V.bool z,σ)) (decide_eq_false λq=>hlt (Int.ofNat_lt.mp q)))
 refine TrS.weakE (vs:=VT d b a w l) (TrS.single (f0e (b:=false) C R (λQ E hQ=>(b0q EK hA 80 env B (VT d b a w l) _ m cm C).2 nlCond σ _ σ f s hcd R S Q E hQ) λf1 s1 R1 S1=>TrS.single ?_)) (.same (vt3 ..) (.same (vt4 ..) .nil))
 cases l with
 |nil=>exact f0e (b:=false) C R1 (λQ E hQ=>(b0q EK hA 80 env B (VT d b a w []) _ m cm C).2 nlCond2 σ _ σ f1 s1 (by rw[hsc];exact(l0f d b a σ w (.mark 0) []).1) R1 S1 Q E hQ) λf2 s2 R2 S2=>TrS.nil R2 S2
 |cons x l=>exact f0e (b:=true) C R1 (λQ E hQ=>(b0q EK hA 80 env B (VT d b a w (x::l)) _ m cm C).2 nlCond2 σ _ σ f1 s1 (by rw[hsc];exact(l0f d b a σ w x l).2) R1 S1 Q E hQ) λf2 s2 R2 S2=>TrS.single λQ E hQ=>e1n (st:=⟨[],none,σ⟩) hK C hsc R2 S2 (Nat.le_refl _) Q E λfl' f' h' t' m' cm' r le S' R'=>hQ fl' f' h' t' m' cm' r le S' (R'.owLe (.cons (λX f v h=>b0b h (a0e _ _) (Nat.le_trans (Nat.le_of_eq ((b0a ..).trans (congrArg _ h0m))) hS)) .nil) (Nat.le_refl _))
theorem d1d(hK:IsX X){k:Nat}(hw:WfN k nd)(ha:a.length≤13)(hd:dn nd=true->σ.nb=true)(hm:σ.md=0)(hn:36≤n)
  (IH:∀p∈listsOf nd,FnV X n (.ref 1045) [.abs (.show_ d b),.abs (.items p.2),.str [.h (a++wden p.1) 20]] σ (rowsV (LR (a++wden p.1) p.2)) σ)(hlen:(nodeWith d LR a nd).length≤30000):
  FnV X (n+1) (.ref 1038) [.abs (.show_ d b),.abs (.node nd),.str [.h a 20]] σ (rowsV (nodeWith d LR a nd)) σ:=by
 have ln:=len1038 d b nd a
 refine d0i (n:=n) (fl:=.ret (rowsV (nodeWith d LR a nd))) (st':=⟨[],none,σ⟩) hK f1038 ln.1 ln.2.1 ln.2.2 λA env B f s m cm hA hsc C R S=> ?_
 have EK:KxOK X n KL:=u0s hK
 have hsc:env.scope=d1038.sc:=hsc
 rw[show e1038.D=d1038 from rfl,vars1038] at R
 show TrS X A env B (execs d1038.body env) _ _ _ _ _
 rw[body1038]
 refine TrS.ofSt (st₂:=⟨VN d b nd a,none,σ⟩) ?_
 refine TrS.consE (st₁:=⟨("found",.any)::VN d b nd a,some ("found",.lst [.str ([.h a 20]++[.h (txt nd) 400])] 1),σ⟩) ?_ λf1 h1 t1 m1 cm1 le1 R1 S1=> ?_
 ·refine g0e (st:=⟨VN d b nd a,none,σ⟩) (es:=[nlEl]) (xs:=[.str ([.h a 20]++[.h (txt nd) 400])]) C R S rfl rfl (λf s R S=> ?_) rfl (by rw[hsc];exact nl_a1 d b nd a σ)
  have gl:=nl_g1
  refine a0b (b0e (a0d C R S rfl (nk3 d b nd a)) (λf2 h2 t2 K2 S2=> ?_) (nl_op a (txt nd))) λf3 h3 t3 K3 S3=>b0f S3
  have R2:=R.kp' K2
  refine b0p (c:=nlEl) hA (b0j (s:={s with heap:=h2,toks:=t2}) EK.toEcOK C S2 (by rw[hsc];exact gl.1) gl.2 rfl) rfl (λf3 h3 t3 K3 S3=> ?_) ((k0f hK hw hd hm d b).at hn)
  refine a0b (a0d C (R2.kp' K3) S3 rfl (nk1 d b nd a)) λf4 h4 t4 K4 S4=> ?_
  exact a0b (a0d C ((R2.kp' K3).kp' K4) S4 rfl (nk2 d b nd a)) λf5 h5 t5 K5 S5=>b0f S5
 ·have hi:∀{h2 t2}{f2:FH}{o:Ow},Rel X env B f2 h2 (("found",.any)::VN d b nd a) (some ("found",o)) m1 cm1->St X f2 σ h2->Tr X A (eval nlIt env) f2 σ {s with heap:=h2,toks:=t2} (.lst (itemsL (listsOf nd)) (listsN (listsOf nd))) σ:=by
   intro h2 t2 f2 o R S
   have gl:=nl_g2
   refine b0p (c:=nlIt) hA (b0j (s:={s with heap:=h2,toks:=t2}) EK.toEcOK C S (by rw[hsc];exact gl.1) gl.2 rfl) rfl (λf3 h3 t3 K3 S3=> ?_) ((l0x hK hw σ).at (by lia))
   exact a0b (a0d C (R.kp' K3) S3 rfl (by rw[(nk7 _ _).2.2];exact nk2 d b nd a)) λf4 h4 t4 K4 S4=>b0f S4
  have e0:wden ([.h a 20]++[.h (txt nd) 400])=a++txt nd:=by rw[a0c,a0e,a0e]
  have H0:∀b,420≤b->LeS [.str ([.h a 20]++[.h (txt nd) 400])] [.str [.h (a++txt nd) b]]:=λb hb=>.cons (λX f v h=>b0b h e0 (e0▸Nat.le_trans (a0s (d0o h)) hb)) .nil
  have HS:SndS X A env B (evS KL [] d1038.sc 80):=by rw[←hsc];exact c0m EK hA 80 env B C
  have RW:Rel X env B f1 h1 (V0 d b a) (some ("found",.lst [.str ([.h a 20]++[.h (txt nd) 400])] 1)) m1 cm1:=R1.weakL (.same ((nk7 ..).1.trans (nk1 ..)) (.same ((nk7 ..).2.1.trans (nk3 ..)) .nil))
  by_cases hlt:a.length<d
  ·have hrow:nodeWith d LR a nd=(a++txt nd)::subR LR a (listsOf nd):=if_pos hlt
   rw[hrow] at hlen ⊢
   refine TrS.consE (d0b (st:=⟨[],none,σ⟩) (s:={s with heap:=h1,toks:=t1}) itemG (listsOf nd) (λdone=>⟨V0 d b a,some ("found",.lst (rowsL ((a++txt nd)::subR LR a done)) 30000),σ⟩) (hA.1 hK.lp) C h0g (RW.owLe (H0 _ (by decide)) (by show 1≤30000;decide)) S1 (hi R1 S1) rfl rfl λdone p rest e=> ?_) λf2 h2 t2 m2 cm2 le2 R2 S2=> ?_
   ·have st:=i0n (LR:=LR) (a:=a) e
    have hp:p∈listsOf nd:=e▸List.mem_append_right _ (.head _)
    have hr:rowsL ((a++txt nd)::subR LR a (done++[p]))=rowsL ((a++txt nd)::subR LR a done)++rowsL (LR (a++wden p.1) p.2):=(congrArg (λz=>rowsL (_::z)) st.1).trans (List.map_append (f:=rowV) (l₁:=(a++txt nd)::subR LR a done))
    refine⟨_,(congrArg (λz=>asg z _ _ _) hsc).trans (w0o d b a σ _ p.1 p.2),?_⟩
    show BodyOK X A env _ _ _ ⟨_,some ("found",.lst (rowsL ((a++txt nd)::subR LR a (done++[p]))) 30000),σ⟩
    rw[hr]
    refine bA_ok hK hA hsc hlt ha (marks _ hp) ?_ (IH p hp)
    rw[←hr,c0p,st.1]
    exact Nat.le_trans (Nat.succ_le_succ st.2) hlen
   ·exact TrS.noVars (TrS.ofSt (c0a C HS _ _ _ _ f2 {s with heap:=h2,toks:=t2} m2 cm2 (w0j σ _ (rowsL ((a++txt nd)::subR LR a (listsOf nd))) 30000) R2 S2))
  ·have hrow:nodeWith d LR a nd=[cutR (a++txt nd) (listsOf nd)]:=if_neg hlt
   rw[hrow]
   have hl:(a++txt nd).length+3 * (listsOf nd).length≤900:=by
    obtain⟨v,_,hv⟩:=R.vars "node" (.abs (.node nd)) (nk2 ..)
    have l2:=i0m nd
    rw[b0a]
    cases hv using VR.eAbs with
    |abs q _=>exact Nat.le_trans (Nat.add_le_add (Nat.add_le_add ha q) (Nat.mul_le_mul_left 3 l2)) (by decide)
   refine TrS.consE (d0b (st:=⟨[],none,σ⟩) (s:={s with heap:=h1,toks:=t1}) itemG (listsOf nd) (λdone=>⟨V0 d b a,some ("found",.lst [.str [.h (cutR (a++txt nd) done) 900]] 1),σ⟩) (hA.1 hK.lp) C h0g (RW.owLe (H0 _ (by decide)) (Nat.le_refl 1)) S1 (hi R1 S1) rfl rfl λdone p rest e=> ?_) λf2 h2 t2 m2 cm2 le2 R2 S2=> ?_
   ·refine⟨_,(congrArg (λz=>asg z _ _ _) hsc).trans (w0o d b a σ _ p.1 p.2),?_⟩
    show BodyOK X A env _ _ _ ⟨_,some ("found",.lst [.str [.h (cutR (a++txt nd) (done++[p])) 900]] 1),σ⟩
    rw[j0b]
    exact bB_ok hK hA hsc hlt (g0t e hl) p.2
   ·have R3:=R2.owLe (k':=30000) (l':=rowsL [cutR (a++txt nd) (listsOf nd)]) (.cons (λX f v h=>b0b h (a0e _ _) (Nat.le_trans (e0x ..) (Nat.le_trans hl (by decide)))) .nil) (by show 1≤30000;decide)
    exact TrS.noVars (TrS.ofSt (c0a C HS _ _ _ _ f2 {s with heap:=h2,toks:=t2} m2 cm2 (w0j σ _ (rowsL [cutR (a++txt nd) (listsOf nd)]) 30000) R3 S2))
end
section
variable {X:Cx} {A:Around} {n:Nat} {env:Env} {n₀:Bs} {vars vars':Vars} {ow:Option (Str × Ow)} {m cm:Str->Option Value} {f f':FH} {σ σ' σ₁:Gs} {s:Shared} {st st' st₁:Sx} {fl:Fl} {h h':Heap}
theorem h0v{t a b:Expr}{pos:Pos}{bb:Bool}{y:V}(HT:TrG X A (isTrue t env (eval t env)) f σ s (λx0 c=>V.bool bb= .bool c) σ₁)(H:∀f' h' t',Kp X f s.heap f' h'->St X f' σ₁ h'->Tr X A (eval (if bb then a else b) env) f' σ₁ {s with heap:=h',toks:=t'} y σ'):Tr X A (eval (.IfExp t a b pos) env) f σ s y σ':=by
 intro Q E hQ
 refine IfExp_ (HT _ _ λva f1 hp1 t1 K1 S1 r1=> ?_)
 obtain rfl:bb=va:=by cases r1;rfl
 have z:=H f1 hp1 t1 K1 S1 Q E λvd f3 hp3 t3 K3 S3 r3=>hQ vd f3 hp3 t3 (K1.trans K3) S3 r3
 cases bb<;>exact z
theorem z0g{x:Str}{l:List V}{k:Nat}{e:Expr}{p:Pos}{y:V}(R:Rel X env n₀ f s.heap vars (some (x,.lst l k)) m cm)(S:St X f σ s.heap)(HE:∀f',Rel X env n₀ f' s.heap ((x,.lst l k)::vars) none m cm->St X f' σ s.heap->Tr X A (eval e env) f' σ s y σ'):TrS X A env n₀ (exec (.Return (some e) p) env) f st s (.ret y) ⟨(x,.lst l k)::vars,none,σ'⟩:=by
 obtain⟨f1,le1,S1,R1⟩:=j0e R S
 intro Q E hQ
 exact wpAny_Return_some (HE f1 R1 S1 _ _ λv f2 h2 t2 K2 S2 r2=>hQ _ f2 h2 t2 m cm (.ret r2) (le1.trans K2.le) S2 (R1.kp' K2))
theorem Tr.le{t:Sem Value}{x y:V}(H:Tr X A t f σ s x σ')(hl:Le x y):Tr X A t f σ s y σ':=λQ E hQ=>H Q E λv f' h' t' K S r=>hQ v f' h' t' K S (hl X f' v r)
theorem Le.bound{l:List V}{i j:Nat}(h:l.length≤j):Le (.lst l i) (.lst l j):=λX f v hv=>by
 cases hv using VR.eLst with
 |lst a b c=>exact .lst a b h
end
noncomputable def ovLl:Ov:=λg xs σ=>match g with
 | .builtin id=>match id,xs with
  |"len",[.lst l b]=>match Nat.ble b 4000 with
   |true=>some (.int (Int.ofNat l.length),σ)
   |false=>none
  |_,_=>none
 |_=>none
set_option tactic.hygienic true in
theorem q0u{X:Cx}:OvOK X 0 ovLl:=by
 intro g xs σ y σ' e
 unfold ovLl at e
 split at e
 case h_2=>cases e
 split at e
 case h_2=>cases e
 rename_i l b
 split at e<;>cases e
 rename_i hb
 refine⟨a0l,λA f s vs hA S' hv Q E hQ=> ?_⟩
 obtain⟨v,rfl,hV⟩:=hv.one'
 cases hV using VR.eLst with
 | @lst a vs j fv rv hn=>
 have h2:=Nat.le_of_ble_eq_true hb
 have hl:vs.toArray.size=l.length:=by rw[List.size_toArray,rv.length]
 refine call_len_list (S'.list fv) (by rw[hl];lia) ?_
 rw[hl];exact here S' hQ (.int _ _)
noncomputable abbrev KM:Kx:=lvl ecT fns mks ovLl 80 0
theorem s0t{X:Cx}{n:Nat}(hK:IsX X):KxOK X n KM:=b0z (m:=n) (a0y hK) 0 (q0u.at (Nat.zero_le _))
noncomputable def llS1:Stmt:=.Assign [Expr.Name ("nodes") ⟨578,4,578,9⟩] (Expr.List [] ⟨578,12,578,14⟩) ⟨578,4,578,14⟩
noncomputable def llApp:Stmt:=.Expr (((Expr.Name ("nodes") ⟨580,8,580,13⟩).Attribute ("append") ⟨580,8,580,20⟩).Call [Expr.Name ("node") ⟨580,21,580,25⟩] [] ⟨580,8,580,26⟩) ⟨580,8,580,26⟩
noncomputable def llCond:Expr:=((Expr.Name ("node") ⟨581,11,581,15⟩).Attribute ("kind") ⟨581,11,581,20⟩).Compare [CmpOp.Eq] [Expr.Name ("DISC") ⟨581,24,581,28⟩] ⟨581,11,581,28⟩
noncomputable def llMid:Expr:=(Expr.Name ("node") ⟨582,25,582,29⟩).Attribute ("middle") ⟨582,25,582,36⟩
noncomputable def llExt:Stmt:=.Expr (((Expr.Name ("nodes") ⟨582,12,582,17⟩).Attribute ("extend") ⟨582,12,582,24⟩).Call [llMid] [] ⟨582,12,582,37⟩) ⟨582,12,582,37⟩
noncomputable def llIf:Stmt:=.If llCond [llExt] [] ⟨581,8,582,37⟩
noncomputable def llS2:Stmt:=.For (Expr.Name ("node") ⟨579,8,579,12⟩) (Expr.Name ("items") ⟨579,16,579,21⟩) [llApp,llIf] [] ⟨579,4,582,37⟩
noncomputable def llS3:Stmt:=.Assign [Expr.Name ("found") ⟨583,4,583,9⟩] (Expr.List [] ⟨583,12,583,14⟩) ⟨583,4,583,14⟩
noncomputable def llBr:Expr:=(Expr.Name ("show") ⟨584,23,584,27⟩).Attribute ("breadth") ⟨584,23,584,35⟩
noncomputable def llIt:Expr:=(Expr.Name ("nodes") ⟨584,16,584,21⟩).Subscript (Expr.Slice none (some llBr) none ⟨584,22,584,35⟩) ⟨584,16,584,36⟩
noncomputable def llArg:Expr:=(Expr.Name ("node_lines") ⟨585,21,585,31⟩).Call [Expr.Name ("show") ⟨585,32,585,36⟩,Expr.Name ("node") ⟨585,38,585,42⟩,Expr.Name ("ahead") ⟨585,44,585,49⟩] [] ⟨585,21,585,50⟩
noncomputable def llExt2:Stmt:=.Expr (((Expr.Name ("found") ⟨585,8,585,13⟩).Attribute ("extend") ⟨585,8,585,20⟩).Call [llArg] [] ⟨585,8,585,51⟩) ⟨585,8,585,51⟩
noncomputable def llS4:Stmt:=.For (Expr.Name ("node") ⟨584,8,584,12⟩) llIt [llExt2] [] ⟨584,4,585,51⟩
noncomputable def llC:Expr:=((Expr.Name ("len") ⟨586,40,586,43⟩).Call [Expr.Name ("nodes") ⟨586,44,586,49⟩] [] ⟨586,40,586,50⟩).Compare [CmpOp.Gt] [(Expr.Name ("show") ⟨586,53,586,57⟩).Attribute ("breadth") ⟨586,53,586,65⟩] ⟨586,40,586,65⟩
noncomputable def llE1:Expr:=Expr.List [(Expr.Name ("ahead") ⟨586,21,586,26⟩).BinOp Operator.Add (Expr.Constant (Const.str ("etc.")) 0 ⟨586,29,586,35⟩) ⟨586,21,586,35⟩] ⟨586,20,586,36⟩
noncomputable def llE2:Expr:=Expr.List [] ⟨586,71,586,73⟩
noncomputable def llR:Expr:=(Expr.Name ("found") ⟨586,11,586,16⟩).BinOp Operator.Add (llC.IfExp llE1 llE2 ⟨586,20,586,73⟩) ⟨586,11,586,74⟩
noncomputable def llS5:Stmt:=.Return (some llR) ⟨586,4,586,74⟩
theorem body1045:d1045.body=[llS1,llS2,llS3,llS4,llS5]:=by kernel_rfl
section
variable (d b:Nat) (nd:Nd) (a:Str) (σ:Gs) (l:List Nd)
noncomputable def VL:Vars:=[("show",.abs (.show_ d b)),("items",.abs (.items l)),("ahead",.str [.h a 20])]
theorem vars1045:varsOf d1045 [.abs (.show_ d b),.abs (.items l),.str [.h a 20]] e1045.dxs=VL d b a l:=by kernel_rfl
theorem len1045:Nat.ble [V.abs (.show_ d b),.abs (.items l),.str [.h a 20]].length e1045.D.names.length=true∧Nat.ble e1045.dxs.length e1045.D.names.length=true∧Nat.ble e1045.D.names.length ([V.abs (.show_ d b),.abs (.items l),.str [.h a 20]].length+e1045.dxs.length)=true:=⟨by kernel_rfl,by kernel_rfl,by kernel_rfl⟩
theorem e1l(o:Ow):asg d1045.sc (.Name "node" ⟨579,8,579,12⟩) (.abs (.node nd)) ⟨V0 d b a,some ("nodes",o),σ⟩=some ⟨("node",.abs (.node nd))::V0 d b a,some ("nodes",o),σ⟩:=by kernel_rfl
theorem ll_s1:evSs (evS KM ["nodes","found"] d1045.sc 80) [llS1] ⟨VL d b a l,none,σ⟩=some (.next,⟨("nodes",.any)::VL d b a l,some ("nodes",.lst [] 0),σ⟩):=by kernel_rfl
noncomputable def VM:Vars:=[("node",.abs (.node nd)),("show",.abs (.show_ d b)),("ahead",.str [.h a 20])]
theorem ll_s3(vs:Vars)(F:List V)(i:Nat):evSs (evS KM ["nodes","found"] d1045.sc 80) [llS3] ⟨vs,some ("nodes",.lst F i),σ⟩=some (.next,⟨("found",.any)::("nodes",.lst F i)::vs,some ("found",.lst [] 0),σ⟩):=by kernel_rfl
noncomputable def isDisc:Nd->Bool
 | .disc _ _ _=>true
 |_=>false
theorem d1b(u v w:List Nd):ev KM 80 d1045.sc (VM d b (.disc u v w) a) false llMid σ=some (.abs (.items w),σ):=by kernel_rfl
theorem lm1:look "node" (VM d b nd a)=some (.abs (.node nd))∧look "show" (VM d b nd a)=some (.abs (.show_ d b))∧look "ahead" (VM d b nd a)=some (.str [.h a 20]):=⟨by kernel_rfl,by kernel_rfl,by kernel_rfl⟩
theorem lm2:look "items" (("nodes",.any)::VL d b a l)=some (.abs (.items l))∧look "show" (("nodes",.any)::VL d b a l)=some (.abs (.show_ d b))∧look "ahead" (("nodes",.any)::VL d b a l)=some (.str [.h a 20]):=⟨by kernel_rfl,by kernel_rfl,by kernel_rfl⟩
noncomputable def VF(Fn:List V):Vars:=[("node",.abs (.node nd)),("show",.abs (.show_ d b)),("ahead",.str [.h a 20]),("nodes",.lst Fn 1000)]
theorem lf1(Fn:List V):look "node" (VF d b nd a Fn)=some (.abs (.node nd))∧look "show" (VF d b nd a Fn)=some (.abs (.show_ d b))∧look "ahead" (VF d b nd a Fn)=some (.str [.h a 20])∧look "nodes" (VF d b nd a Fn)=some (.lst Fn 1000):=⟨by kernel_rfl,by kernel_rfl,by kernel_rfl,by kernel_rfl⟩
noncomputable def VG(Fn:List V):Vars:=[("show",.abs (.show_ d b)),("ahead",.str [.h a 20]),("nodes",.lst Fn 1000)]
theorem lg1(Fn:List V):look "show" (VG d b a Fn)=some (.abs (.show_ d b))∧look "ahead" (VG d b a Fn)=some (.str [.h a 20])∧look "nodes" (VG d b a Fn)=some (.lst Fn 1000):=⟨by kernel_rfl,by kernel_rfl,by kernel_rfl⟩
theorem b1a(Fn:List V)(o:Ow):asg d1045.sc (.Name "node" ⟨584,8,584,12⟩) (.abs (.node nd)) ⟨VG d b a Fn,some ("found",o),σ⟩=some ⟨("node",.abs (.node nd))::VG d b a Fn,some ("found",o),σ⟩:=by kernel_rfl
theorem ll_wl(Fn:List V):WL (("found",.any)::("nodes",.lst Fn 1000)::V0 d b a) (VG d b a Fn):=.same (by kernel_rfl) (.same (by kernel_rfl) (.same (by kernel_rfl) .nil))
theorem c1n:WL (("nodes",.any)::VL d b a l) (V0 d b a):=.same (by kernel_rfl) (.same (by kernel_rfl) .nil)
theorem ll_br(Fn:List V):ev KM 80 d1045.sc (VG d b a Fn) false llBr σ=some (nat b,σ):=by kernel_rfl
theorem ll_c(F Fn:List V):ev KM 80 d1045.sc (("found",.lst F 30000)::VG d b a Fn) true llC σ=some (.bool (decide (Int.ofNat b<Int.ofNat Fn.length)),σ):=by kernel_rfl
theorem ll_e1(F Fn:List V):ev KM 80 d1045.sc (("found",.lst F 30000)::VG d b a Fn) false llE1 σ=some (.lst [.str ([.h a 20]++wS "etc.")] 1,σ):=by kernel_rfl
theorem ll_e2(F Fn:List V):ev KM 80 d1045.sc (("found",.lst F 30000)::VG d b a Fn) false llE2 σ=some (.lst [] 0,σ):=by kernel_rfl
theorem ll_f(F Fn:List V):look "found" (("found",.lst F 30000)::VG d b a Fn)=some (.lst F 30000):=by kernel_rfl
theorem w0b(F:List V)(w:Wd):opV .Add (.lst F 30000) (.lst [.str w] 1)=some (.lst (F++[.str w]) 30001)∧opV .Add (.lst F 30000) (.lst [] 0)=some (.lst (F++[]) 30000):=⟨by kernel_rfl,by kernel_rfl⟩
theorem ll_g:kindG d1045.sc "node_lines"=true∧look "node_lines" KM.GT=some (.con (.ref 1038)):=⟨by kernel_rfl,by kernel_rfl⟩
end
theorem y0q{d b k:Nat}{nd:Nd}{a:Str}{σ:Gs}(hw:WfN k nd):ev KM 80 d1045.sc (VM d b nd a) true llCond σ=some (.bool (isDisc nd),σ):=by
 cases nd with
 |box kk sh sg o up x y z l=>
  match k,kk,hw with
  |_+1,0,_=>kernel_rfl
  |_+1,1,_=>kernel_rfl
  |_+1,_+2,hw=>exact absurd hw.1.1 (Nat.not_lt_of_le (Nat.le_add_left ..))
 |_=>kernel_rfl
noncomputable def nodeL(l:List Nd):List V:=l.map λnd=>.abs (.node nd)
theorem e0a(l:List Nd):(nodeL l).length=l.length:=List.length_map ..
theorem i0d(l k:List Nd):nodeL (l++k)=nodeL l++nodeL k:=List.map_append
theorem f0n:∀l k:List Nd,flatN (l++k)=flatN l++flatN k
 |[],_=>rfl
 |x::l,k=>congrArg (x::·) ((congrArg _ (f0n l k)).trans (List.append_assoc ..).symm)
theorem flat3{k:Nat}:∀{l:List Nd},(∀x∈l,WfN k x)->(flatN l).length≤3 * l.length
 |[],_=>Nat.le_refl _
 |x::r,h=>Nat.le_trans (Nat.le_of_eq (congrArg Nat.succ List.length_append)) (Nat.le_trans (Nat.succ_le_succ (Nat.add_le_add (h0k (h x (.head _))).1 (flat3 λy hy=>h y (.tail _ hy)))) (Nat.le_of_eq (by rw[List.length_cons,Nat.mul_succ];simp only [Nat.succ_eq_add_one];lia)))
theorem n0u{L done rest:List Nd}{p:Nd}(e:L=done++p::rest):flatN (done++[p])=flatN done++(p::repl p)∧(flatN done++(p::repl p)).length≤(flatN L).length:=by
 have h:flatN (done++[p])=flatN done++(p::repl p):=(f0n ..).trans (congrArg (flatN done++·) (congrArg (p::·) (List.append_nil _)))
 refine⟨h,?_⟩
 rw[e,List.append_cons done p rest,f0n (done++[p]) rest,h,List.length_append (bs:=flatN rest)]
 exact Nat.le_add_right ..
theorem j0g{g:Nd->List Str}{L done rest:List Nd}{p:Nd}(e:L=done++p::rest):rowsL (rowsOf g (done++[p]))=rowsL (rowsOf g done)++rowsL (g p)∧(rowsL (rowsOf g done)++rowsL (g p)).length≤(rowsOf g L).length:=by
 have h:rowsOf g (done++[p])=rowsOf g done++g p:=(c0k ..).trans (congrArg _ (List.append_nil _))
 have h':rowsL (rowsOf g (done++[p]))=rowsL (rowsOf g done)++rowsL (g p):=(congrArg rowsL h).trans List.map_append
 refine⟨h',?_⟩
 rw[←h',c0p,e,List.append_cons done p rest,c0k g (done++[p]) rest,List.length_append (bs:=rowsOf g rest)]
 exact Nat.le_add_right ..
section
variable {X:Cx} {A:Around} {n:Nat} {env:Env} {n₀:Bs} {vars vars':Vars} {m cm:Str->Option Value} {f f':FH} {σ:Gs} {s:Shared} {st st' st₁:Sx} {fl:Fl} {d b:Nat} {a:Str} {l:List Nd} {g:Nd->List Str}
theorem z0l(nd:Nd):(isDisc nd=false∧repl nd=[])∨∃u v w,nd= .disc u v w:=by
 cases nd<;>first|exact .inr ⟨_,_,_,rfl⟩|exact .inl ⟨rfl,rfl⟩
theorem b2_if{B:Bs}{F:List V}(hK:IsX X)(hA:Room X A n)(hsc:env.scope=d1045.sc)(C:Cz X env B)(nd:Nd)(hF:(F++nodeL (nd::repl nd)).length≤1000)(R:Rel X env B f s.heap (VM d b nd a) (some ("nodes",.lst (F++[.abs (.node nd)]) 1001)) m cm)(S:St X f σ s.heap):
  TrS X A env B (execs (if isDisc nd then[llExt] else[]) env) f st s .next ⟨VM d b nd a,some ("nodes",.lst (F++nodeL (nd::repl nd)) 1000),σ⟩:=by
 rcases z0l nd with h|⟨u,v,w,rfl⟩
 ·rw[show nodeL (nd::repl nd)=[.abs (.node nd)] from congrArg (λz=>nodeL (nd::z)) h.2] at hF ⊢
  rw[h.1]
  exact TrS.owLe (TrS.nil (st:=⟨VM d b nd a,some ("nodes",.lst (F++[.abs (.node nd)]) 1001),σ⟩) R S) hF
 ·have e:F++nodeL (Nd.disc u v w::repl (.disc u v w))=(F++[.abs (.node (.disc u v w))])++nodeL w:=List.append_cons ..
  rw[e] at hF ⊢
  exact TrS.single (TrS.owLe (k:=(F++[V.abs (.node (.disc u v w))]).length+(nodeL w).length) (d0l (j:=w.length) C R S (by kernel_rfl) (by kernel_rfl) rfl (λs3 R3 S3=>Tr.le ((b0q (s0t hK) hA 80 env B (VM d b (.disc u v w) a) _ m cm C).1 llMid σ _ σ f s3 (by rw[hsc];exact d1b d b a σ u v w) R3 S3) λX f v h=>by
    cases h using VR.eAbs with
    |abs k h=>exact h) (Nat.le_trans (Nat.le_of_eq List.length_append.symm) (Nat.le_trans hF (by decide)))) hF)
theorem b2_ok(hK:IsX X)(hA:Room X A n)(hsc:env.scope=d1045.sc){k:Nat}{nd:Nd}{F:List V}(hw:WfN k nd)(hF:(F++nodeL (nd::repl nd)).length≤1000):BodyOK X A env [llApp,llIf] ⟨VM d b nd a,some ("nodes",.lst F 1000),σ⟩ .next ⟨V0 d b a,some ("nodes",.lst (F++nodeL (nd::repl nd)) 1000),σ⟩:=λB f s m cm C R S=>
 TrS.weakE (vs:=VM d b nd a) (TrS.consE (f0k (arg:=Expr.Name ("node") ⟨580,21,580,25⟩) (y:=.abs (.node nd)) C R S (by kernel_rfl) (λs2 R2 S2=>a0d C R2 S2 rfl (lm1 d b nd a).1) rfl) λf1 h1 t1 m1 cm1 le1 R1 S1=>
  TrS.single (f0e (σ:=σ) (σ':=σ) (vars:=VM d b nd a) (ow:=some ("nodes",.lst (F++[.abs (.node nd)]) 1001)) (b:=isDisc nd) (s:={s with heap:=h1,toks:=t1}) C R1 (λQ E hQ=>(b0q (s0t hK) hA 80 env B (VM d b nd a) _ m1 cm1 C).2 llCond σ _ σ f1 _ (by rw[hsc];exact y0q hw) R1 S1 Q E hQ) λf2 s2 R2 S2=>b2_if hK hA hsc C nd hF R2 S2)) (.same (lm1 d b nd a).2.1 (.same (lm1 d b nd a).2.2 .nil))
theorem b4_ok(hK:IsX X)(hA:Room X A n)(hsc:env.scope=d1045.sc){nd:Nd}{F Fn:List V}{K:List Str}(hF:(F++rowsL K).length≤30000)(IH:FnV X n (.ref 1038) [.abs (.show_ d b),.abs (.node nd),.str [.h a 20]] σ (rowsV K) σ):
  BodyOK X A env [llExt2] ⟨VF d b nd a Fn,some ("found",.lst F 30000),σ⟩ .next ⟨VG d b a Fn,some ("found",.lst (F++rowsL K) 30000),σ⟩:=λB f s m cm C R S=>by
 have EK:KxOK X n KM:=s0t hK
 have lf:=lf1 d b nd a Fn
 refine TrS.weakE (vs:=VF d b nd a Fn) (TrS.owLe (k:=F.length+(rowsL K).length) (TrS.single (d0l (j:=30000) C R S (by kernel_rfl) (by kernel_rfl) rfl (λs2 R2 S2=> ?_) (Nat.le_trans (Nat.le_of_eq List.length_append.symm) (Nat.le_trans hF (by decide))))) hF) (.same lf.2.1 (.same lf.2.2.1 (.same lf.2.2.2 .nil)))
 have gl:=ll_g
 refine b0p (c:=llArg) (σ₁:=σ) hA (b0j EK.toEcOK C S2 (by rw[hsc];exact gl.1) gl.2 rfl) rfl (λf3 h3 t3 K3 S3=> ?_) IH
 refine a0b (a0d C (R2.kp' K3) S3 rfl lf.2.1) λf4 h4 t4 K4 S4=> ?_
 refine a0b (a0d C ((R2.kp' K3).kp' K4) S4 rfl lf.1) λf5 h5 t5 K5 S5=> ?_
 exact a0b (a0d C (((R2.kp' K3).kp' K4).kp' K5) S5 rfl lf.2.2.1) λf6 h6 t6 K6 S6=>b0f S6
theorem TrS.single_ret{B:Bs}{e:Stmt}{y:V}(H:TrS X A env B (exec e env) f st s (.ret y) st'):TrS X A env B (execs [e] env) f st s (.ret y) st':=λQ E hQ=>wpAny_execs_cons (H _ _ λfl' f1 hp1 t1 m1 cm1 r1 K1 S1 R1=>by
 cases r1 with
 |ret r1=>exact hQ _ f1 hp1 t1 m1 cm1 (.ret r1) K1 S1 R1)
theorem a1u:wden ([.h a 20]++wS "etc.")=a++etcS:=by rw[a0c,a0e];rfl
theorem k0l{X:Cx}{f:FH}{v:Value}(h:VR X f v (.str ([.h a 20]++wS "etc."))):(a++etcS).length≤1000:=by
 rw[←a1u]
 exact Nat.le_trans (a0s (d0o h)) (by rw[b0d,show wlen (wS "etc.")=4 by kernel_rfl];show 20+0+4≤1000;decide)
theorem e1i(hK:IsX X){k:Nat}(hl3:l.length≤3)(wf:∀x∈l,WfN k x)(ha:a.length≤13)(hcnt:(rowsOf g (flatN l)).length≤29000)(IH:∀x∈flatN l,FnV X n (.ref 1038) [.abs (.show_ d b),.abs (.node x),.str [.h a 20]] σ (rowsV (g x)) σ):
  FnV X (n+1) (.ref 1045) [.abs (.show_ d b),.abs (.items l),.str [.h a 20]] σ (rowsV (rowsOf g ((flatN l).take b)++(if b<(flatN l).length then[a++etcS] else[]))) σ:=by
 have ln:=len1045 d b a l
 refine d0i (n:=n) (fl:=.ret (rowsV (rowsOf g ((flatN l).take b)++(if b<(flatN l).length then[a++etcS] else[])))) (st':=⟨[],none,σ⟩) hK f1045 ln.1 ln.2.1 ln.2.2 λA env B f s m cm hA hsc C R S=> ?_
 have EK:KxOK X n KM:=s0t hK
 have hsc:env.scope=d1045.sc:=hsc
 rw[show e1045.D=d1045 from rfl,vars1045] at R
 show TrS X A env B (execs d1045.body env) _ _ _ _ _
 rw[body1045]
 have HS:SndS X A env B (evS KM ["nodes","found"] d1045.sc 80):=by rw[←hsc];exact c0m EK hA 80 env B C
 have flen:(flatN l).length≤1000:=Nat.le_trans (flat3 wf) (Nat.le_trans (Nat.mul_le_mul_left 3 hl3) (by decide))
 show TrS X A env B (execs ([llS1]++[llS2,llS3,llS4,llS5]) env) _ _ _ _ _
 refine TrS.ofSt (st₂:=⟨VL d b a l,none,σ⟩) ?_
 refine a0w C HS _ _ _ f s m cm (ll_s1 d b a σ l) R S λf1 h1 t1 m1 cm1 le1 R1 S1=> ?_
 have lm:=lm2 d b a l
 refine TrS.consE (d0b (st:=⟨[],none,σ⟩) (s:={s with heap:=h1,toks:=t1}) (λnd=>.abs (.node nd)) l (λdone=>⟨V0 d b a,some ("nodes",.lst (nodeL (flatN done)) 1000),σ⟩) (hA.1 hK.lp) C e0b ((R1.weakL (c1n d b a l)).owLe (LeS.refl _) (Nat.zero_le _)) S1 (a0d C R1 S1 rfl lm.1) rfl rfl λdone p rest e=> ?_) λf2 h2 t2 m2 cm2 le2 R2 S2=> ?_
 ·have st:=n0u e
  refine⟨_,(congrArg (λz=>asg z _ _ _) hsc).trans (e1l d b p a σ _),?_⟩
  show BodyOK X A env _ _ _ ⟨_,some ("nodes",.lst (nodeL (flatN (done++[p]))) 1000),σ⟩
  rw[st.1,i0d]
  refine b2_ok hK hA hsc (wf p (e▸List.mem_append_right _ (.head _))) ?_
  rw[←i0d,e0a]
  exact Nat.le_trans st.2 flen
 show TrS X A env B (execs ([llS3]++[llS4,llS5]) env) _ _ _ _ _
 refine TrS.ofSt (st₂:=⟨V0 d b a,some ("nodes",.lst (nodeL (flatN l)) 1000),σ⟩) ?_
 refine a0w C HS _ _ _ f2 {s with heap:=h2,toks:=t2} m2 cm2 (ll_s3 σ (V0 d b a) (nodeL (flatN l)) 1000) R2 S2 λf3 h3 t3 m3 cm3 le3 R3 S3=> ?_
 have R3':=R3.weakL (ll_wl d b a (nodeL (flatN l)))
 have lg:=lg1 d b a (nodeL (flatN l))
 have htl:(rowsOf g ((flatN l).take b)).length≤29000:=Nat.le_trans (f0i (g:=g) (flatN l) b) hcnt
 refine TrS.consE (d0b (st:=⟨[],none,σ⟩) (s:={s with heap:=h3,toks:=t3}) (it:=.lst ((nodeL (flatN l)).take b) (nodeL (flatN l)).length) (λnd=>.abs (.node nd)) ((flatN l).take b) (λdone=>⟨VG d b a (nodeL (flatN l)),some ("found",.lst (rowsL (rowsOf g done)) 30000),σ⟩) (hA.1 hK.lp) C e0b (R3'.owLe (LeS.refl _) (Nat.zero_le _)) S3 ?_ (congrArg some List.map_take.symm) rfl λdone p rest e=> ?_) λf4 h4 t4 m4 cm4 le4 R4 S4=> ?_
 ·refine j0s (a0d C R3' S3 rfl lg.2.2) (λf' h' t' K' S'=> ?_) (uv:=nat b) rfl (λo r=>rfl) (by rw[e0a];lia)
  exact(b0q EK hA 80 env B (VG d b a (nodeL (flatN l))) _ m3 cm3 C).1 llBr σ _ σ f' _ (by rw[hsc];exact ll_br d b a σ _) (R3'.kp' K') S'
 ·have st:=j0g (g:=g) e
  refine⟨_,(congrArg (λz=>asg z _ _ _) hsc).trans (b1a d b p a σ _ _),?_⟩
  show BodyOK X A env _ _ _ ⟨_,some ("found",.lst (rowsL (rowsOf g (done++[p]))) 30000),σ⟩
  rw[st.1]
  exact b4_ok hK hA hsc (Nat.le_trans st.2 (Nat.le_trans htl (by decide))) (IH p (List.mem_of_mem_take (e▸List.mem_append_right done (.head rest))))
 generalize hT:rowsL (rowsOf g ((flatN l).take b))=T at R4
 have hTl:T.length≤29000:=hT▸Nat.le_trans (Nat.le_of_eq (c0p _)) htl
 refine TrS.noVars (vs:=("found",.lst T 30000)::VG d b a (nodeL (flatN l))) (ow:=none) (TrS.single_ret (z0g (σ:=σ) (σ':=σ) (y:=rowsV (rowsOf g ((flatN l).take b)++(if b<(flatN l).length then[a++etcS] else[]))) (st:=⟨[],none,σ⟩) (s:={s with heap:=h4,toks:=t4}) R4 S4 λf5 R5 S5=> ?_))
 have hf:=ll_f d b a T (nodeL (flatN l))
 have Cn:=λ(bb:Bool)(hb:decide (Int.ofNat b<Int.ofNat (nodeL (flatN l)).length)=bb) f' (s':Shared)(R':Rel X env B f' s'.heap _ none m4 cm4) S'=>(b0q EK hA 80 env B (("found",.lst T 30000)::VG d b a (nodeL (flatN l))) none m4 cm4 C).2 llC σ (.bool bb) σ f' s' (by rw[hsc];exact(ll_c d b a σ T (nodeL (flatN l))).trans (congrArg (λz=>some (V.bool z,σ)) hb)) R' S'
 show Tr X A _ f5 σ _ (.lst (rowsL (rowsOf g ((flatN l).take b)++(if b<(flatN l).length then[a++etcS] else[]))) 30000) σ
 rw[rowsL,List.map_append,show List.map rowV (rowsOf g ((flatN l).take b))=T from hT]
 by_cases hb:b<(flatN l).length
 ·rw[if_pos hb]
  refine Tr.le (x:=.lst (T++[.str ([.h a 20]++wS "etc.")]) 30001) (b0e (a0d C R5 S5 rfl hf) (λf7 h7 t7 K7 S7=>h0v (bb:=true) (Cn true (decide_eq_true (Int.ofNat_lt.mpr (by rw[e0a];exact hb))) f7 _ (R5.kp' K7) S7) λf8 h8 t8 K8 S8=>(b0q EK hA 80 env B _ none m4 cm4 C).1 llE1 σ _ σ f8 _ (by rw[hsc];exact ll_e1 d b a σ T (nodeL (flatN l))) ((R5.kp' K7).kp' K8) S8) (w0b _ _).1) (Le.trans (y:=.lst (T++[rowV (a++etcS)]) 30001) (Le.lst (LeS.app (.cons (λX f v h=>b0b h a1u (k0l h)) .nil) T)) (Le.bound ?_))
  rw[List.length_append]
  exact Nat.le_trans (Nat.succ_le_succ hTl) (by decide)
 ·rw[if_neg hb]
  exact Tr.le (x:=.lst (T++[]) 30000) (b0e (a0d C R5 S5 rfl hf) (λf7 h7 t7 K7 S7=>h0v (bb:=false) (Cn false (decide_eq_false λq=>hb (by have:=Int.ofNat_lt.mp q;rw[e0a] at this;exact this)) f7 _ (R5.kp' K7) S7) λf8 h8 t8 K8 S8=>(b0q EK hA 80 env B _ none m4 cm4 C).1 llE2 σ _ σ f8 _ (by rw[hsc];exact ll_e2 d b a σ T (nodeL (flatN l))) ((R5.kp' K7).kp' K8) S8) (w0b _ []).2) (.refl _)
end
theorem v0s{y:Nd}(h:letOk y):dn y=false:=by
 cases y<;>first|rfl|exact h.elim
theorem q0i:∀{l:List Nd},(∀y∈l,letOk y)->dnL l=false
 |[],_=>rfl
 |_::_,h=>congr (congrArg orB (v0s (h _ (.head _)))) (q0i λz hz=>h z (.tail _ hz))
theorem orB_l{a b:Bool}(h:a=true):orB a b=true:=by subst h;cases b<;>rfl
theorem orB_r{a b:Bool}(h:b=true):orB a b=true:=by subst h;rfl
theorem w0q{l:List Nd}{p:Prop}(h:∀y∈l,letOk y)(e:dnL l=true):p:=nomatch e.symm.trans (q0i h)
theorem p0t{k:Nat}{l:List Nd}(h:∀y∈l,letOk y):∀y∈l,WfN k y:=λy hy=>b0s (c0s (h y hy))
noncomputable def Below(k:Nat)(x:Nd)(p:Wd × List Nd):Prop:=p.2.length≤3∧(∀y∈p.2,WfN k y)∧(dnL p.2=true->dn x=true)
theorem below{k:Nat}{x:Nd}(w:WfN (k+1) x):∀p∈listsOf x,Below k x p:=by
 cases x with
 |box=>exact a0m ⟨w.2.1,w.2.2,id⟩ a0u
 |cell=>exact a0m ⟨w.2.1,w.2.2,id⟩ a0u
 |adj=>exact a0m ⟨w.1,w.2,id⟩ a0u
 |ins=>exact a0m ⟨w.2.1,w.2.2,id⟩ a0u
 |lead s g l=>exact a0m ⟨Nat.le_add_left 1 2,a0m w.2.2.2 a0u,λh=>by
   show dn l=true
   revert h
   show orB (dn l) false=true->_
   cases dn l<;>exact id⟩ a0u
 |disc u v r=>exact a0m ⟨Nat.le_succ_of_le w.1.1,p0t w.2.1,w0q w.2.1⟩ (a0m ⟨Nat.le_succ_of_le w.1.2.1,p0t w.2.2.1,w0q w.2.2.1⟩ a0u)
 |_=>exact a0u
theorem f0r{k:Nat}:∀{l:List Nd},(∀x∈l,WfN k x)->∀y∈flatN l,WfN k y∧(dn y=true->dnL l=true)
 |[],_=>a0u
 |x::r,hw=>a0m ⟨hw _ (.head _),orB_l⟩ λy h=>(List.mem_append.mp h).elim
   (λh=>have q:=(h0k (hw x (.head _))).2 y h;⟨b0s (c0s q),λe=>nomatch e.symm.trans (v0s q)⟩)
   λh=>have q:=f0r (λz hz=>hw z (.tail _ hz)) y h;⟨q.1,λe=>orB_r (q.2 e)⟩
section
variable {X:Cx} {d b:Nat}
theorem showList(hK:IsX X):∀(k:Nat)(l:List Nd)(a:Str)(σ:Gs),k≤6->l.length≤3->(∀x∈l,WfN k x)->a.length+k≤13->(dnL l=true->σ.nb=true)->σ.md=0->
  FnV X (38+2 * k) (.ref 1045) [.abs (.show_ d b),.abs (.items l),.str [.h a 20]] σ (rowsV (listR d b (k+1) a l)) σ
 |0,l,a,σ,hk,h1,h2,ha,hd,hm=>e1i (n:=37) (g:=nodeWith d (listR d b 0) a) hK h1 h2 ha (Nat.le_trans (f0x (b:=b) h1 h2) (by decide)) λx hx=>by
   have q:=f0r h2 x hx
   have l0:=(c0j (show leafOk x from q.1)).1
   exact d1d (n:=36) hK q.1 ha (λe=>hd (q.2 e)) hm (Nat.le_refl _) (l0▸a0u) (Nat.le_trans (h0s l0) (by decide))
 |k+1,l,a,σ,hk,h1,h2,ha,hd,hm=>e1i (n:=38+2 * k+1) (g:=nodeWith d (listR d b (k+1)) a) hK h1 h2 (Nat.le_trans (Nat.le_add_right ..) ha) (Nat.le_trans (g0r hk h1 h2) (by decide)) λx hx=>by
   have q:=f0r h2 x hx
   refine d1d (n:=38+2 * k) hK q.1 (Nat.le_trans (Nat.le_add_right ..) ha) (λe=>hd (q.2 e)) hm (Nat.le_trans (by decide) (Nat.le_add_right ..)) (λp hp=> ?_) (Nat.le_trans (m0a hk q.1) (by decide))
   have w:=below q.1 p hp
   exact showList hK k p.2 (a++wden p.1) σ (Nat.le_of_succ_le hk) w.1 w.2.1 (by rw[b0a,f0a (marks p hp),Nat.add_assoc,Nat.add_comm 1];exact ha) (λe=>hd (q.2 (w.2.2 e))) hm
end
noncomputable abbrev KP:Kx:=lvl ecT fns mks (orOv ovLn ovLl) 80 0
theorem e0s{X:Cx}{n:Nat}(hK:IsX X):KxOK X n KP:=b0z (m:=n) (a0y hK) 0 ((r0v.or q0u).at (Nat.zero_le _))
section
variable {X:Cx} {A:Around} {n:Nat} {env:Env} {n₀:Bs} {vars:Vars} {ow:Option (Str × Ow)} {m cm:Str->Option Value} {f:FH} {σ σ₁:Gs} {s:Shared}
theorem k0k(C:Cz X env n₀)(R:Rel X env n₀ f s.heap vars ow m cm)(S:St X f σ s.heap){x:Str}{p p2 p3:Pos}{k:Nat}{j:Int}{y w:V}(hx:okName x=true)(e:look x vars=some y)(hi:idxV y j=some w):Tr X A (eval (.Subscript (.Name x p) (.Constant (.int j) k p2) p3) env) f σ s w σ:=by
 intro Q E hQ
 obtain⟨h1,h2⟩:=a0v hx
 obtain⟨v,a,b⟩:=R.vars x y e
 refine Subscript_ (wpAny_Name (b0o C R.fm a h2 ?_) h1)
 refine wpAny_Constant_int ?_
 obtain⟨⟨T,id,g1,g2⟩,g3⟩:=o0o (A:=A) (t:=s.toks) (s:={s with toks:=s.toks+1}) S b hi
 exact PyProof.Rows.tail_any g1 g2 (g3 _ _ λvd f3 hp3 t3 K3 S3 r3=>hQ vd f3 hp3 t3 K3 S3 r3) (f0d rfl)
theorem k0h{es:List Expr}{pos:Pos}{xs:List V}(ha:allPlain es=true)(hl:xs.length≤1000)(H:TrL X A (spliced (treesOf es env)) f σ s xs σ₁):Tr X A (eval (.List es pos) env) f σ s (.lst xs xs.length) σ₁:=by
 intro Q E hQ
 refine List_ ?_
 rw[a0k ha]
 refine H _ _ λvs f1 h1 t1 K1 S1 r1=> ?_
 refine wpAny_newList ?_ ?_
 ·have z:=S1.alloc (o:={cls:=.type "list",data:=.seq vs.toArray}) rfl
  exact hQ _ _ _ _ (K1.trans z.2) z.1 (.lst (FH.put_self ..) (r1.mono z.2.le) (Nat.le_refl _))
 ·have:=r1.length;rw[line24];lia
end
noncomputable def lrX:Expr:=(Expr.List [Expr.Name ("one") ⟨848,47,848,50⟩] ⟨848,46,848,51⟩).BinOp Operator.Add ((Expr.Name ("one") ⟨848,54,848,57⟩).Subscript (Expr.Constant (Const.int 3) 0 ⟨848,58,848,59⟩) ⟨848,54,848,60⟩) ⟨848,46,848,60⟩
noncomputable def lrSc:Scope:={kind:=ScopeKind.function,names:=[(".0",NameKind.local),("one",NameKind.local),("part",NameKind.local)],isGenerator:=false,isCoroutine:=false}
noncomputable def lrLC:Expr:=LC2 (.Name ("part") ⟨848,12,848,16⟩) (.Name ("one") ⟨848,21,848,24⟩) (.Name ("drawn") ⟨848,28,848,33⟩) (.Name ("part") ⟨848,38,848,42⟩) lrX lrSc ⟨848,11,848,61⟩
noncomputable def lrS1:Stmt:=.Assign [Expr.Name ("flat") ⟨848,4,848,8⟩] lrLC ⟨848,4,848,61⟩
noncomputable def lrS2:Stmt:=.Assign [Expr.Name ("rows") ⟨849,4,849,8⟩] (Expr.List [] ⟨849,11,849,13⟩) ⟨849,4,849,13⟩
noncomputable def lrBr:Expr:=Expr.Name ("breadth") ⟨850,21,850,28⟩
noncomputable def lrIt:Expr:=(Expr.Name ("flat") ⟨850,15,850,19⟩).Subscript (Expr.Slice none (some lrBr) none ⟨850,20,850,28⟩) ⟨850,15,850,29⟩
noncomputable def lrT1:Stmt:=.Assign [Expr.Tuple [Expr.Name ("row") ⟨851,8,851,11⟩,Expr.Name ("inner") ⟨851,13,851,18⟩] 0 ⟨851,8,851,18⟩]
 (Expr.Tuple [(Expr.Name ("ahead") ⟨851,22,851,27⟩).BinOp Operator.Add ((Expr.Name ("one") ⟨851,30,851,33⟩).Subscript (Expr.Constant (Const.int 1) 0 ⟨851,34,851,35⟩) ⟨851,30,851,36⟩) ⟨851,22,851,36⟩,Expr.List [] ⟨851,38,851,40⟩] 0 ⟨851,21,851,41⟩) ⟨851,8,851,41⟩
noncomputable def lrTg:List Expr:=[Expr.Name ("mark") ⟨852,12,852,16⟩,Expr.Name ("parts") ⟨852,18,852,23⟩]
noncomputable def lrIt2:Expr:=(Expr.Name ("one") ⟨852,27,852,30⟩).Subscript (Expr.Constant (Const.int 2) 0 ⟨852,31,852,32⟩) ⟨852,27,852,33⟩
noncomputable def lrC:Expr:=((Expr.Name ("len") ⟨853,15,853,18⟩).Call [Expr.Name ("ahead") ⟨853,19,853,24⟩] [] ⟨853,15,853,25⟩).Compare [CmpOp.GtE] [Expr.Name ("depth") ⟨853,29,853,34⟩] ⟨853,15,853,34⟩
noncomputable def lrRow:Stmt:=.Assign [Expr.Name ("row") ⟨854,16,854,19⟩] ((Expr.Name ("row") ⟨854,22,854,25⟩).BinOp Operator.Add ((Expr.Constant (Const.str (" []")) 0 ⟨854,28,854,33⟩).BinOp Operator.Mult
 ((Expr.Name ("int") ⟨854,36,854,39⟩).Call [(Expr.Name ("parts") ⟨854,40,854,45⟩).Compare [CmpOp.NotEq] [Expr.List [] ⟨854,49,854,51⟩] ⟨854,40,854,51⟩] [] ⟨854,36,854,52⟩) ⟨854,28,854,52⟩) ⟨854,22,854,52⟩) ⟨854,16,854,52⟩
noncomputable def lrCall:Expr:=(Expr.Name ("_law_rows") ⟨856,32,856,41⟩).Call [Expr.Name ("parts") ⟨856,42,856,47⟩,(Expr.Name ("ahead") ⟨856,49,856,54⟩).BinOp Operator.Add (Expr.Name ("mark") ⟨856,57,856,61⟩) ⟨856,49,856,61⟩,Expr.Name ("depth") ⟨856,63,856,68⟩,Expr.Name ("breadth") ⟨856,70,856,77⟩] [] ⟨856,32,856,78⟩
noncomputable def lrInn:Stmt:=.Assign [Expr.Name ("inner") ⟨856,16,856,21⟩] ((Expr.Name ("inner") ⟨856,24,856,29⟩).BinOp Operator.Add lrCall ⟨856,24,856,78⟩) ⟨856,16,856,78⟩
noncomputable def lrIf:Stmt:=.If lrC [lrRow] [lrInn] ⟨853,12,856,78⟩
noncomputable def lrT2:Stmt:=.For (Expr.Tuple lrTg 0 ⟨852,12,852,23⟩) lrIt2 [lrIf] [] ⟨852,8,856,78⟩
noncomputable def lrT3:Stmt:=.Assign [Expr.Name ("rows") ⟨857,8,857,12⟩] (((Expr.Name ("rows") ⟨857,15,857,19⟩).BinOp Operator.Add (Expr.List [Expr.Name ("row") ⟨857,23,857,26⟩] ⟨857,22,857,27⟩) ⟨857,15,857,27⟩).BinOp Operator.Add (Expr.Name ("inner") ⟨857,30,857,35⟩) ⟨857,15,857,35⟩) ⟨857,8,857,35⟩
noncomputable def lrS3:Stmt:=.For (Expr.Name ("one") ⟨850,8,850,11⟩) lrIt [lrT1,lrT2,lrT3] [] ⟨850,4,857,35⟩
noncomputable def lrCmp:Expr:=((Expr.Name ("len") ⟨858,41,858,44⟩).Call [Expr.Name ("flat") ⟨858,45,858,49⟩] [] ⟨858,41,858,50⟩).Compare [CmpOp.Gt] [Expr.Name ("breadth") ⟨858,53,858,60⟩] ⟨858,41,858,60⟩
noncomputable def lrEtc:Expr:=Expr.List [(Expr.Name ("ahead") ⟨858,19,858,24⟩).BinOp Operator.Add (Expr.Constant (Const.str ("etc.")) 0 ⟨858,27,858,33⟩) ⟨858,19,858,33⟩] ⟨858,18,858,34⟩
noncomputable def lrInt:Expr:=(Expr.Name ("int") ⟨858,37,858,40⟩).Call [lrCmp] [] ⟨858,37,858,61⟩
noncomputable def lrRet:Expr:=(Expr.Name ("rows") ⟨858,11,858,15⟩).BinOp Operator.Add (lrEtc.BinOp Operator.Mult lrInt ⟨858,18,858,61⟩) ⟨858,11,858,61⟩
noncomputable def lrS4:Stmt:=.Return (some lrRet) ⟨858,4,858,61⟩
theorem body1335:d1335.body=[lrS1,lrS2,lrS3,lrS4]:=by kernel_rfl
theorem f1335:findE 1335 fns=some e1335:=by kernel_rfl
noncomputable def partL(l:List Nd):List V:=l.map λnd=>.abs (.part nd)
section
variable (d b:Nat) (nd:Nd) (a:Str) (σ:Gs) (l:List Nd)
noncomputable def VP:Vars:=[("drawn",.abs (.parts l)),("ahead",.str [.h a 20]),("depth",nat d),("breadth",nat b)]
theorem vars1335:varsOf d1335 [.abs (.parts l),.str [.h a 20],nat d,nat b] e1335.dxs=VP d b a l:=by kernel_rfl
theorem len1335:Nat.ble [V.abs (.parts l),.str [.h a 20],nat d,nat b].length e1335.D.names.length=true∧Nat.ble e1335.dxs.length e1335.D.names.length=true∧Nat.ble e1335.D.names.length ([V.abs (.parts l),.str [.h a 20],nat d,nat b].length+e1335.dxs.length)=true:=⟨by kernel_rfl,by kernel_rfl,by kernel_rfl⟩
theorem lr_sw:pureOf (swapsWith lrLC (some (.Name ("flat") ⟨848,4,848,8⟩)) 848 (dum d1335.sc))=some true:=by kernel_rfl
theorem b1v:compOk lrSc d1335.sc "one"=true∧compOk lrSc d1335.sc "part"=true:=⟨by kernel_rfl,by kernel_rfl⟩
theorem lr_a1(P:List V)(i:Nat):asgN d1335.sc "flat" (.lst P i) ⟨VP d b a l,none,σ⟩=some ⟨("flat",.lst P i)::VP d b a l,none,σ⟩:=by kernel_rfl
theorem lr_k1:look "drawn" (VP d b a l)=some (.abs (.parts l)):=by kernel_rfl
noncomputable def VP2(P:List V)(F:List V):Vars:=[("rows",.lst F 30000),("flat",.lst P 1000),("ahead",.str [.h a 20]),("depth",nat d),("breadth",nat b)]
theorem lr_s2(P:List V)(i:Nat):evSs (evS KP [] d1335.sc 80) [lrS2] ⟨("flat",.lst P i)::VP d b a l,none,σ⟩=some (.next,⟨("rows",.lst [] 0)::("flat",.lst P i)::VP d b a l,none,σ⟩):=by kernel_rfl
noncomputable def VQ(P:List V)(F:List V):Vars:=("one",.abs (.part nd))::VP2 d b a P F
theorem lr_t1(P F:List V):evSs (evS KP [] d1335.sc 80) [lrT1] ⟨VQ d b nd a P F,none,σ⟩=some (.next,⟨("row",.str ([.h a 20]++[.h (txt nd) 400]))::("inner",.lst [] 0)::VQ d b nd a P F,none,σ⟩):=by kernel_rfl
noncomputable def VR2(P F:List V)(S:Str)(c:Nat)(I:List V):Vars:=[("row",.str [.h S c]),("inner",.lst I 30000),("one",.abs (.part nd)),("rows",.lst F 30000),("flat",.lst P 1000),("ahead",.str [.h a 20]),("depth",nat d),("breadth",nat b)]
noncomputable def VS(P F:List V)(S:Str)(c:Nat)(I:List V)(w:Wd)(q:List Nd):Vars:=("parts",.abs (.parts q))::("mark",.str w)::VR2 d b nd a P F S c I
theorem w0g(vs:Vars)(w:Wd)(q:List Nd):asg d1335.sc (.Tuple lrTg 0 ⟨852,12,852,23⟩) (.tup [.str w,.abs (.parts q)]) ⟨vs,none,σ⟩=some ⟨("parts",.abs (.parts q))::("mark",.str w)::vs,none,σ⟩:=by kernel_rfl
theorem lr_c(P F:List V)(S:Str)(c:Nat)(I:List V)(w:Wd)(q:List Nd):ev KP 80 d1335.sc (VS d b nd a P F S c I w q) true lrC σ=some (.bool (decide (Int.ofNat d≤Int.ofNat a.length)),σ):=by kernel_rfl
theorem v0w(P F:List V)(S:Str)(I:List V)(w:Wd)(x:Nd)(q:List Nd):evSs (evS KP [] d1335.sc 80) [lrRow] ⟨VS d b nd a P F S 900 I w [],none,σ⟩=some (.next,⟨("row",.str ([.h S 900]++[]))::VS d b nd a P F S 900 I w [],none,σ⟩)∧
 evSs (evS KP [] d1335.sc 80) [lrRow] ⟨VS d b nd a P F S 900 I w (x::q),none,σ⟩=some (.next,⟨("row",.str ([.h S 900]++wS " []"))::VS d b nd a P F S 900 I w (x::q),none,σ⟩):=⟨by kernel_rfl,by kernel_rfl⟩
theorem lr_t3(P F:List V)(S:Str)(c:Nat)(I:List V):evSs (evS KP [] d1335.sc 80) [lrT3] ⟨VR2 d b nd a P F S c I,none,σ⟩=some (.next,⟨("rows",.lst (F++[.str [.h S c]]++I) 60001)::VR2 d b nd a P F S c I,none,σ⟩):=by kernel_rfl
theorem c1v(P F:List V):ev KP 80 d1335.sc (VP2 d b a P F) false lrCmp σ=some (.bool (decide (Int.ofNat b<Int.ofNat P.length)),σ):=by kernel_rfl
theorem c1q(P F:List V):ev KP 80 d1335.sc (VP2 d b a P F) false lrEtc σ=some (.lst [.str ([.h a 20]++wS "etc.")] 1,σ):=by kernel_rfl
theorem v0n(F:List V)(x:V):opV .Mult (.lst [x] 1) (.int 1)=some (.lst [x] 1)∧opV .Mult (.lst [x] 1) (.int 0)=some (.lst [] 0)∧opV .Add (.lst F 30000) (.lst [x] 1)=some (.lst (F++[x]) 30001)∧opV .Add (.lst F 30000) (.lst [] 0)=some (.lst (F++[]) 30000):=⟨by kernel_rfl,by kernel_rfl,by kernel_rfl,by kernel_rfl⟩
theorem w0w(x:V)(F I:List V):opV .Add (.lst [x] 1) (.lst F 100)=some (.lst ([x]++F) 101)∧opV .Add (.lst F 30000) (.lst I 30000)=some (.lst (F++I) 60000):=⟨by kernel_rfl,by kernel_rfl⟩
theorem v0u:idxV (.abs (.part nd)) 3=some (.abs (.parts (repl nd)))∧idxV (.abs (.part nd)) 2=some (.abs (.lists nd)):=⟨by kernel_rfl,by kernel_rfl⟩
theorem lr_g:kindG d1335.sc "_law_rows"=true∧look "_law_rows" KP.GT=some (.con (.ref 1335))∧kindG d1335.sc "int"=true∧look "int" KP.GT=some (.con (.type "int")):=⟨by kernel_rfl,by kernel_rfl,by kernel_rfl,by kernel_rfl⟩
end
section
variable (d b:Nat) (nd:Nd) (a:Str) (σ:Gs) (P F:List V) (S:Str) (I:List V) (w:Wd) (q:List Nd) (x:V)
theorem lr_vs:look "mark" (VS d b nd a P F S 900 I w q)=some (.str w)∧look "parts" (VS d b nd a P F S 900 I w q)=some (.abs (.parts q))∧look "inner" (VS d b nd a P F S 900 I w q)=some (.lst I 30000)∧look "ahead" (VS d b nd a P F S 900 I w q)=some (.str [.h a 20])∧look "depth" (VS d b nd a P F S 900 I w q)=some (nat d)∧look "breadth" (VS d b nd a P F S 900 I w q)=some (nat b):=
 ⟨by kernel_rfl,by kernel_rfl,by kernel_rfl,by kernel_rfl,by kernel_rfl,by kernel_rfl⟩
theorem n0n:kindOk d1335.sc "inner"=true∧pureOf (swapsWith ((Expr.Name ("inner") ⟨856,24,856,29⟩).BinOp Operator.Add lrCall ⟨856,24,856,78⟩) (some (.Name ("inner") ⟨856,16,856,21⟩)) 856 (dum d1335.sc))=some false∧seq "inner" "self"=false:=⟨by kernel_rfl,by kernel_rfl,by kernel_rfl⟩
noncomputable def VR3:Vars:=[("one",.abs (.part nd)),("rows",.lst F 30000),("flat",.lst P 1000),("ahead",.str [.h a 20]),("depth",nat d),("breadth",nat b)]
theorem c1d:look "row" (("inner",x)::VS d b nd a P F S 900 I w q)=some (.str [.h S 900])∧look "inner" (("inner",x)::VS d b nd a P F S 900 I w q)=some x∧WL (("inner",x)::VS d b nd a P F S 900 I w q) (VR3 d b nd a P F):=⟨by kernel_rfl,by kernel_rfl,WL.of (by kernel_rfl)⟩
theorem w0h:look "row" (("row",x)::VS d b nd a P F S 900 I w q)=some x∧WL (("row",x)::VS d b nd a P F S 900 I w q) (("inner",.lst I 30000)::VR3 d b nd a P F):=⟨by kernel_rfl,WL.of (by kernel_rfl)⟩
theorem wl_t1(z:Nat):look "row" (("row",x)::("inner",.lst [] z)::VQ d b nd a P F)=some x∧look "inner" (("row",x)::("inner",.lst [] z)::VQ d b nd a P F)=some (.lst [] z)∧WL (("row",x)::("inner",.lst [] z)::VQ d b nd a P F) (VR3 d b nd a P F):=⟨by kernel_rfl,by kernel_rfl,WL.of (by kernel_rfl)⟩
theorem wl_t3:look "rows" (("rows",x)::VR2 d b nd a P F S 900 I)=some x∧WL (("rows",x)::VR2 d b nd a P F S 900 I) [("flat",.lst P 1000),("ahead",.str [.h a 20]),("depth",nat d),("breadth",nat b)]:=⟨by kernel_rfl,WL.of (by kernel_rfl)⟩
theorem lr_r2:look "one" (VR2 d b nd a P F S 900 I)=some (.abs (.part nd)):=by kernel_rfl
theorem z0d:asg d1335.sc (.Name "one" ⟨850,8,850,11⟩) (.abs (.part nd)) ⟨VP2 d b a P F,none,σ⟩=some ⟨VQ d b nd a P F,none,σ⟩:=by kernel_rfl
end
section
variable {X:Cx} {A:Around} {n:Nat} {env:Env} {n₀:Bs} {m cm:Str->Option Value} {f f':FH} {σ:Gs} {s:Shared} {st st':Sx} {fl:Fl} {d b:Nat} {nd:Nd} {a:Str} {P F:List V}
theorem bI_ok(hK:IsX X)(hA:Room X A n)(hsc:env.scope=d1335.sc)(hlt:a.length<d)(ha:a.length≤13){w:Wd}{q:List Nd}{S0:Str}{I:List V}{K:List Str}(hm:w=wS "."∨w=wS "|")(hc:(I++rowsL K).length≤30000)
  (IH:FnV X n (.ref 1335) [.abs (.parts q),.str [.h (a++wden w) 20],nat d,nat b] σ (rowsV K) σ):BodyOK X A env [lrIf] ⟨VS d b nd a P F S0 900 I w q,none,σ⟩ .next ⟨VR2 d b nd a P F S0 900 (I++rowsL K),none,σ⟩:=λB f s m cm C R S=>by
 have EK:KxOK X n KP:=e0s hK
 have hcd:ev KP 80 env.scope (VS d b nd a P F S0 900 I w q) true lrC σ=some (.bool false,σ):=by rw[hsc];exact(lr_c ..).trans (congrArg (λz=>some (V.bool z,σ)) (decide_eq_false λq=>Nat.not_le_of_lt hlt (Int.ofNat_le.mp q)))
 have li:=c1d d b nd a P F S0 I w q (.lst (I++rowsL K) 60000)
 refine TrS.single (f0e (b:=false) C R (λQ E hQ=>(b0q EK hA 80 env B _ none m cm C).2 lrC σ _ σ f s hcd R S Q E hQ) λf1 s1 R1 S1=>TrS.single (TrS.weakE (vs:=("inner",.lst (I++rowsL K) 60000)::VS d b nd a P F S0 900 I w q) (b0l C R1 S1 ((b0n _ _ _ env).trans (by rw[hsc];exact a0z n0n.2.1)) (by rw[hsc];exact n0n.1) n0n.2.2 ?_) (.same li.1 (.cons li.2.1 (Le.bound hc) li.2.2))))
 have lv:=lr_vs d b nd a P F S0 I w q
 have gl:=lr_g
 refine b0e (a0d C R1 S1 rfl lv.2.2.1) (λf2 h2 t2 K2 S2=> ?_) (w0w .none I _).2
 refine b0p (c:=lrCall) (σ₁:=σ) hA (b0j (s:={s1 with heap:=h2,toks:=t2}) EK.toEcOK C S2 (by rw[hsc];exact gl.1) gl.2.1 rfl) rfl (xs:=[.abs (.parts q),.str ([.h a 20]++w),nat d,nat b]) (λf3 h3 t3 K3 S3=> ?_) (IH.arg λf vs hv=> ?_)
 ·have R3:=(R1.kp' K2).kp' K3
  refine a0b (a0d C R3 S3 rfl lv.2.1) λf4 h4 t4 K4 S4=> ?_
  have R4:=R3.kp' K4
  refine a0b (b0e (a0d C R4 S4 rfl lv.2.2.2.1) (λf6 h6 t6 K6 S6=>a0d C (R4.kp' K6) S6 rfl lv.1) (markOp hm)) λf7 h7 t7 K7 S7=> ?_
  have R7:=R4.kp' K7
  exact a0b (a0d C R7 S7 rfl lv.2.2.2.2.1) λf8 h8 t8 K8 S8=>a0b (a0d C (R7.kp' K8) S8 rfl lv.2.2.2.2.2) λf9 h9 t9 K9 S9=>b0f S9
 ·cases hv with|cons g1 hv=>
  cases hv with|cons g2 hv=>
  refine .cons g1 (.cons (b0b g2 (by rw[a0c,a0e]) ?_) hv)
  rw[b0a,f0a hm]
  exact Nat.le_trans (Nat.succ_le_succ ha) (by decide)
theorem weakRow{t:Sem Flow}{S0 S1:Str}{I:List V}{w w1:Wd}{q:List Nd}(H:TrS X A env n₀ t f st s fl ⟨("row",.str w1)::VS d b nd a P F S0 900 I w q,none,σ⟩)(e:wden w1=S1)(hb:S1.length≤900):TrS X A env n₀ t f st s fl ⟨VR2 d b nd a P F S1 900 I,none,σ⟩:=
 TrS.weakE H (.cons (w0h d b nd a P F S0 I w q (.str w1)).1 (λX f v h=>b0b h e hb) (w0h d b nd a P F S0 I w q (.str w1)).2)
theorem bR_ok(hK:IsX X)(hA:Room X A n)(hsc:env.scope=d1335.sc)(hlt:¬a.length<d){w:Wd}{S0:Str}{I:List V}(hS:S0.length+3≤900):∀q:List Nd,BodyOK X A env [lrIf] ⟨VS d b nd a P F S0 900 I w q,none,σ⟩ .next ⟨VR2 d b nd a P F (cutQ S0 q) 900 I,none,σ⟩:=λq B f s m cm C R S=>by
 have EK:KxOK X n KP:=e0s hK
 have hcd:ev KP 80 env.scope (VS d b nd a P F S0 900 I w q) true lrC σ=some (.bool true,σ):=by rw[hsc];exact(lr_c ..).trans (congrArg (λz=>some (V.bool z,σ)) (decide_eq_true (Int.ofNat_le.mpr (Nat.le_of_not_lt hlt))))
 have HS:SndS X A env B (evS KP [] d1335.sc 80):=by rw[←hsc];exact c0m EK hA 80 env B C
 refine TrS.single (f0e (b:=true) C R (λQ E hQ=>(b0q EK hA 80 env B _ none m cm C).2 lrC σ _ σ f s hcd R S Q E hQ) λf1 s1 R1 S1=> ?_)
 cases q with
 |nil=>exact weakRow (TrS.ofSt (c0a C HS _ _ _ _ f1 s1 m cm (v0w d b nd a σ P F S0 I w (.mark 0) []).1 R1 S1)) (by rw[List.append_nil,a0e];rfl) (Nat.le_of_add_right_le hS)
 |cons x q=>exact weakRow (TrS.ofSt (c0a C HS _ _ _ _ f1 s1 m cm (v0w d b nd a σ P F S0 I w x q).2 R1 S1)) (by rw[a0c,a0e];rfl) (Nat.le_trans (Nat.le_of_eq ((b0a ..).trans (congrArg _ h0m))) hS)
end
theorem g0s:∀l:List (Wd × List Nd),listsL l=l.map λp=>.tup [.str p.1,.abs (.parts p.2)]
 |[]=>rfl
 |_::l=>congrArg (_::·) (g0s l)
section
variable {X:Cx} {A:Around} {n:Nat} {env:Env} {n₀:Bs} {m cm:Str->Option Value} {f f':FH} {σ:Gs} {s:Shared} {st st':Sx} {fl:Fl} {d b:Nat} {nd:Nd} {a:Str} {P F:List V} {LR:Str->List Nd->List Str}
theorem d1u(hK:IsX X)(hA:Room X A n)(hsc:env.scope=d1335.sc)(ha:a.length≤13)
  (IH:∀p∈listsOf nd,FnV X n (.ref 1335) [.abs (.parts p.2),.str [.h (a++wden p.1) 20],nat d,nat b] σ (rowsV (LR (a++wden p.1) p.2)) σ)(hF:(F++rowsL (nodeWith d LR a nd)).length≤30000):
  BodyOK X A env [lrT1,lrT2,lrT3] ⟨VQ d b nd a P F,none,σ⟩ .next ⟨VP2 d b a P (F++rowsL (nodeWith d LR a nd)),none,σ⟩:=λB f s m cm C R S=>by
 have EK:KxOK X n KP:=e0s hK
 have HS:SndS X A env B (evS KP [] d1335.sc 80):=by rw[←hsc];exact c0m EK hA 80 env B C
 have hl:(a++txt nd).length+3 * (listsOf nd).length≤900:=by
  obtain⟨v,_,hv⟩:=R.vars "one" (.abs (.part nd)) (by kernel_rfl)
  have l2:=i0m nd
  rw[b0a]
  cases hv using VR.eAbs with
  |abs q _=>exact Nat.le_trans (Nat.add_le_add (Nat.add_le_add ha q) (Nat.mul_le_mul_left 3 l2)) (by decide)
 have hl0:(a++txt nd).length≤900:=Nat.le_of_add_right_le hl
 show TrS X A env B (execs ([lrT1]++[lrT2,lrT3]) env) _ _ _ _ _
 refine a0w C HS _ _ _ f s m cm (lr_t1 d b nd a σ P F) R S λf1 h1 t1 m1 cm1 le1 R1 S1=> ?_
 have k1:=wl_t1 d b nd a P F (.str ([.h a 20]++[.h (txt nd) 400])) 0
 have R1':Rel X env B f1 h1 (VR2 d b nd a P F (a++txt nd) 900 []) none m1 cm1:=R1.weakL (.cons k1.1 (λX f v h=>b0b h (by rw[a0c,a0e,a0e]) hl0) (.cons k1.2.1 (Le.bound (Nat.zero_le _)) k1.2.2))
 have HI:Tr X A (eval lrIt2 env) f1 σ {s with heap:=h1,toks:=t1} (.abs (.lists nd)) σ:=k0k C R1' S1 rfl (lr_r2 ..) (v0u nd).2
 have hx:seqV (.abs (.lists nd))=some ((listsOf nd).map λp=>.tup [.str p.1,.abs (.parts p.2)]):=congrArg some (g0s _)
 have fin:∀{f2:FH}{h2:Heap}{t2:Nat}{m2 cm2:Str->Option Value}{S2:Str}{K:List Str},S2.length≤900->nodeWith d LR a nd=S2::K->Rel X env B f2 h2 (VR2 d b nd a P F S2 900 (rowsL K)) none m2 cm2->St X f2 σ h2->
   TrS X A env B (execs [lrT3] env) f2 ⟨[],none,σ⟩ {s with heap:=h2,toks:=t2} .next ⟨VP2 d b a P (F++rowsL (nodeWith d LR a nd)),none,σ⟩:=λ{f2 h2 t2 m2 cm2 S2 K} hS e R2 S2'=>by
  rw[e] at hF ⊢
  have k3:=wl_t3 d b nd a P F S2 (rowsL K) (.lst (F++[.str [.h S2 900]]++rowsL K) 60001)
  refine TrS.weakE (TrS.ofSt (c0a C HS _ _ _ _ f2 {s with heap:=h2,toks:=t2} m2 cm2 (lr_t3 d b nd a σ P F S2 900 (rowsL K)) R2 S2')) (.cons k3.1 (Le.trans (y:=.lst (F++rowsL (S2::K)) 60001) (Le.lst ?_) (Le.bound hF)) k3.2)
  rw[List.append_assoc]
  exact LeS.app (.cons (λX f v h=>b0b h (a0e _ _) (Nat.le_trans hS (by decide))) (.refl _)) F
 by_cases hlt:a.length<d
 ·have hrow:nodeWith d LR a nd=(a++txt nd)::subR LR a (listsOf nd):=if_pos hlt
  refine TrS.consE (d0b (st:=⟨[],none,σ⟩) (s:={s with heap:=h1,toks:=t1}) _ (listsOf nd) (λdone=>⟨VR2 d b nd a P F (a++txt nd) 900 (rowsL (subR LR a done)),none,σ⟩) (hA.1 hK.lp) C h0g R1' S1 HI hx rfl λdone p rest e=> ?_) λf2 h2 t2 m2 cm2 le2 R2 S2=>fin hl0 hrow R2 S2
  have st:=i0n (LR:=LR) (a:=a) e
  have hp:p∈listsOf nd:=e▸List.mem_append_right _ (.head _)
  have hr:rowsL (subR LR a (done++[p]))=rowsL (subR LR a done)++rowsL (LR (a++wden p.1) p.2):=(congrArg rowsL st.1).trans List.map_append
  refine⟨_,(congrArg (λz=>asg z _ _ _) hsc).trans (w0g σ _ p.1 p.2),?_⟩
  show BodyOK X A env _ _ _ ⟨VR2 d b nd a P F (a++txt nd) 900 (rowsL (subR LR a (done++[p]))),none,σ⟩
  rw[hr]
  refine bI_ok hK hA hsc hlt ha (marks _ hp) ?_ (IH p hp)
  rw[hrow,List.length_append,c0p] at hF
  rw[←hr,c0p,st.1]
  exact Nat.le_trans st.2 (Nat.le_trans (Nat.le_succ _) (Nat.le_trans (Nat.le_add_left ..) hF))
 ·refine TrS.consE (d0b (st:=⟨[],none,σ⟩) (s:={s with heap:=h1,toks:=t1}) _ (listsOf nd) (λdone=>⟨VR2 d b nd a P F (cutR (a++txt nd) done) 900 [],none,σ⟩) (hA.1 hK.lp) C h0g R1' S1 HI hx rfl λdone p rest e=> ?_) λf2 h2 t2 m2 cm2 le2 R2 S2=>fin (K:=[]) (Nat.le_trans (e0x ..) hl) (if_neg hlt) R2 S2
  refine⟨_,(congrArg (λz=>asg z _ _ _) hsc).trans (w0g σ _ p.1 p.2),?_⟩
  show BodyOK X A env _ _ _ ⟨VR2 d b nd a P F (cutR (a++txt nd) (done++[p])) 900 [],none,σ⟩
  rw[j0b]
  exact bR_ok hK hA hsc hlt (g0t e hl) p.2
end
noncomputable def ysL:V->List V
 | .abs (.part nd)=>partL (nd::repl nd)
 |_=>[]
theorem c0o(l:List Nd):(partL l).length=l.length:=List.length_map ..
theorem p0e(l k:List Nd):partL (l++k)=partL l++partL k:=List.map_append
theorem g0y:∀l:List Nd,catV2 ysL (partL l)=partL (flatN l)
 |[]=>rfl
 |x::r=>by
  show partL (x::repl x)++catV2 ysL (partL r)=partL (x::(repl x++flatN r))
  rw[g0y r,←p0e];rfl
theorem x0e(z:V)(vs:Vars):look "one" (("one",z)::vs)=some z:=by kernel_rfl
theorem Le.dparts{l:List Nd}:Le (.abs (.parts l)) (.lst (partL l) 100):=λX f v h=>by
 cases h using VR.eAbs with
 |abs k h=>exact Le.bound (i:=l.length) (by rw[c0o];exact k) X f v h
theorem n0q:notSet lrX=true∧notSet (.Name ("drawn") ⟨848,28,848,33⟩)=true:=⟨by kernel_rfl,by kernel_rfl⟩
theorem lr_p2(d b:Nat)(a:Str)(P F:List V):look "rows" (VP2 d b a P F)=some (.lst F 30000)∧look "flat" (VP2 d b a P F)=some (.lst P 1000)∧look "breadth" (VP2 d b a P F)=some (nat b):=⟨by kernel_rfl,by kernel_rfl,by kernel_rfl⟩
section
variable {X:Cx} {A:Around} {n:Nat} {env:Env} {n₀:Bs} {vars vs vs':Vars} {ow:Option (Str × Ow)} {m cm:Str->Option Value} {f f':FH} {σ σ':Gs} {s:Shared} {st st':Sx} {fl:Fl} {d b:Nat} {a:Str} {l:List Nd} {P:List V} {g:Nd->List Str} {LR:Str->List Nd->List Str}
theorem w0a{e:Expr}{p:Pos}{y:V}(R:Rel X env n₀ f s.heap vars none m cm)(HE:Tr X A (eval e env) f σ s y σ'):TrS X A env n₀ (exec (.Return (some e) p) env) f st s (.ret y) ⟨vars,none,σ'⟩:=by
 intro Q E hQ
 exact wpAny_Return_some (HE _ _ λv f2 h2 t2 K2 S2 r2=>hQ _ f2 h2 t2 m cm (.ret r2) K2.le S2 (R.kp' K2))
theorem c1m(hK:IsX X){k:Nat}(hl3:l.length≤3)(wf:∀x∈l,WfN k x)(ha:a.length≤13)(hcnt:(rowsOf (nodeWith d LR a) (flatN l)).length≤29000)
  (IH:∀x∈flatN l,∀p∈listsOf x,FnV X n (.ref 1335) [.abs (.parts p.2),.str [.h (a++wden p.1) 20],nat d,nat b] σ (rowsV (LR (a++wden p.1) p.2)) σ):
  FnV X (n+1) (.ref 1335) [.abs (.parts l),.str [.h a 20],nat d,nat b] σ (rowsV (rowsOf (nodeWith d LR a) ((flatN l).take b)++(if b<(flatN l).length then[a++etcS] else[]))) σ:=by
 have ln:=len1335 d b a l
 refine d0i (n:=n) (fl:=.ret (rowsV (rowsOf (nodeWith d LR a) ((flatN l).take b)++(if b<(flatN l).length then[a++etcS] else[])))) (st':=⟨[],none,σ⟩) hK f1335 ln.1 ln.2.1 ln.2.2 λA env B f s m cm hA hsc C R S=> ?_
 have EK:KxOK X n KP:=e0s hK
 have hsc:env.scope=d1335.sc:=hsc
 rw[show e1335.D=d1335 from rfl,vars1335] at R
 show TrS X A env B (execs d1335.body env) _ _ _ _ _
 rw[body1335]
 have HS:SndS X A env B (evS KP [] d1335.sc 80):=by rw[←hsc];exact c0m EK hA 80 env B C
 have flen:(flatN l).length≤1000:=Nat.le_trans (flat3 wf) (Nat.le_trans (Nat.mul_le_mul_left 3 hl3) (by decide))
 refine TrS.ofSt (st₂:=⟨VP d b a l,none,σ⟩) ?_
 refine TrS.consE (st₁:=⟨("flat",.lst (partL (flatN l)) (partL (flatN l)).length)::VP d b a l,none,σ⟩) ?_ λf1 h1 t1 m1 cm1 le1 R1 S1=> ?_
 ·have F1:=d0q b1v.1
  have F2:=d0q b1v.2
  refine m0j (vars:=VP d b a l) (x:="one") (y:="part") (it:=.abs (.parts l)) (all:=partL l) (it2:=λz=>.lst (ysL z) 101) (ys2:=ysL) (hA.1 hK.lp) C R S (by rw[hsc];exact F1) (by rw[hsc];exact F2) rfl n0q.2 n0q.1 (λz hz=>rfl) ?_ (a0d C R S rfl (lr_k1 d b a l)) rfl ?_ ((b0n _ _ _ env).trans (by rw[hsc];exact a0z lr_sw)) ?_
  ·intro L mC cm z f s hz C' R' S'
   obtain⟨nd,_,rfl⟩:=List.mem_map.mp hz
   refine b0e (x:=.lst [.abs (.part nd)] 1) (y:=.lst (partL (repl nd)) 100) (k0h rfl (Nat.le_add_left 1 999) (a0b (a0d C' R' S' rfl (x0e _ _)) λf2 h2 t2 K2 S2=>b0f S2)) (λf2 h2 t2 K2 S2=> ?_) (w0w _ _ []).1
   exact Tr.le (k0k C' (R'.kp' K2) S2 rfl (x0e _ _) (v0u nd).1) Le.dparts
  ·rw[g0y,c0o];exact Nat.le_trans flen (by decide)
  ·rw[g0y,hsc]
   exact lr_a1 d b a σ l _ _
 show TrS X A env B (execs ([lrS2]++[lrS3,lrS4]) env) _ _ _ _ _
 refine a0w C HS _ _ _ f1 {s with heap:=h1,toks:=t1} m1 cm1 (lr_s2 d b a σ l (partL (flatN l)) (partL (flatN l)).length) R1 S1 λf2 h2 t2 m2 cm2 le2 R2 S2=> ?_
 have R2':Rel X env B f2 h2 (VP2 d b a (partL (flatN l)) []) none m2 cm2:=R2.weakL (.cons (y:=.lst [] 0) (by kernel_rfl) (Le.bound (Nat.zero_le _)) (.cons (y:=.lst (partL (flatN l)) (partL (flatN l)).length) (by kernel_rfl) (Le.bound (by rw[c0o];exact flen)) (WL.of (by kernel_rfl))))
 have kp:=lr_p2 d b a (partL (flatN l))
 have htl:(rowsOf (nodeWith d LR a) ((flatN l).take b)).length≤29000:=Nat.le_trans (f0i (g:=nodeWith d LR a) (flatN l) b) hcnt
 refine TrS.consE (d0b (st:=⟨[],none,σ⟩) (s:={s with heap:=h2,toks:=t2}) (it:=.lst ((partL (flatN l)).take b) (partL (flatN l)).length) (λnd=>.abs (.part nd)) ((flatN l).take b) (λdone=>⟨VP2 d b a (partL (flatN l)) (rowsL (rowsOf (nodeWith d LR a) done)),none,σ⟩) (hA.1 hK.lp) C e0b R2' S2 ?_ (congrArg some List.map_take.symm) rfl λdone p rest e=> ?_) λf4 h4 t4 m4 cm4 le4 R4 S4=> ?_
 ·exact j0s (a0d C R2' S2 rfl (kp []).2.1) (λf' h' t' K' S'=>a0d C (R2'.kp' K') S' rfl (kp []).2.2) (uv:=nat b) rfl (λo r=>rfl) (by rw[c0o];lia)
 ·have st:=j0g (g:=nodeWith d LR a) e
  refine⟨_,(congrArg (λz=>asg z _ _ _) hsc).trans (z0d d b p a σ _ _),?_⟩
  show BodyOK X A env _ _ _ ⟨VP2 d b a (partL (flatN l)) (rowsL (rowsOf (nodeWith d LR a) (done++[p]))),none,σ⟩
  rw[st.1]
  exact d1u hK hA hsc ha (IH p (List.mem_of_mem_take (e▸List.mem_append_right done (.head rest)))) (Nat.le_trans st.2 (Nat.le_trans htl (by decide)))
 generalize hF:rowsL (rowsOf (nodeWith d LR a) ((flatN l).take b))=F at R4
 have hFl:F.length≤29000:=hF▸Nat.le_trans (Nat.le_of_eq (c0p _)) htl
 have gl:=lr_g
 refine TrS.noVars (vs:=VP2 d b a (partL (flatN l)) F) (ow:=none) (TrS.single_ret (w0a (σ:=σ) (σ':=σ) (s:={s with heap:=h4,toks:=t4}) R4 ?_))
 have Ce:=λf' (s':Shared)(R':Rel X env B f' s'.heap _ none m4 cm4) S'=>(b0q EK hA 80 env B (VP2 d b a (partL (flatN l)) F) none m4 cm4 C).1 lrEtc σ _ σ f' s' (by rw[hsc];exact c1q d b a σ (partL (flatN l)) F) R' S'
 have hI:∀(bb:Bool)(i:Int),biT "int" [.bool bb]=some (.int i)->decide (Int.ofNat b<Int.ofNat (partL (flatN l)).length)=bb->∀{f' h' t'},Kp X f4 h4 f' h'->St X f' σ h'->Tr X A (eval lrInt env) f' σ {s with heap:=h',toks:=t'} (.int i) σ:=λbb i e eb f' h' t' K' S'=>
  b0p (c:=lrInt) (σ₁:=σ) hA (b0j (s:={s with heap:=h',toks:=t'}) EK.toEcOK C S' (by rw[hsc];exact gl.2.2.1) gl.2.2.2 rfl) rfl (xs:=[.bool bb]) (λf5 h5 t5 K5 S5=>a0b ((b0q EK hA 80 env B (VP2 d b a (partL (flatN l)) F) none m4 cm4 C).1 lrCmp σ (.bool bb) σ f5 _ (by rw[hsc];exact(c1v d b a σ (partL (flatN l)) F).trans (congrArg (λz=>some (V.bool z,σ)) eb)) ((R4.kp' K').kp' K5) S5) λf6 h6 t6 K6 S6=>b0f S6) (c1b e)
 show Tr X A _ f4 σ _ (.lst (rowsL (rowsOf (nodeWith d LR a) ((flatN l).take b)++(if b<(flatN l).length then[a++etcS] else[]))) 30000) σ
 rw[rowsL,List.map_append,show List.map rowV (rowsOf (nodeWith d LR a) ((flatN l).take b))=F from hF]
 by_cases hb:b<(flatN l).length
 ·rw[if_pos hb]
  refine Tr.le (x:=.lst (F++[.str ([.h a 20]++wS "etc.")]) 30001) (b0e (a0d C R4 S4 rfl (kp F).1) (λf7 h7 t7 K7 S7=>b0e (Ce f7 _ (R4.kp' K7) S7) (λf8 h8 t8 K8 S8=>hI true 1 (by kernel_rfl) (decide_eq_true (Int.ofNat_lt.mpr (by rw[c0o];exact hb))) (K7.trans K8) S8) (v0n F _).1) (v0n F _).2.2.1) (Le.trans (y:=.lst (F++[rowV (a++etcS)]) 30001) (Le.lst (LeS.app (.cons (λX f v h=>b0b h a1u (k0l h)) .nil) F)) (Le.bound ?_))
  rw[List.length_append]
  exact Nat.le_trans (Nat.succ_le_succ hFl) (by decide)
 ·rw[if_neg hb]
  exact Tr.le (x:=.lst (F++[]) 30000) (b0e (a0d C R4 S4 rfl (kp F).1) (λf7 h7 t7 K7 S7=>b0e (Ce f7 _ (R4.kp' K7) S7) (λf8 h8 t8 K8 S8=>hI false 0 (by kernel_rfl) (decide_eq_false λq=>hb (by have:=Int.ofNat_lt.mp q;rw[c0o] at this;exact this)) (K7.trans K8) S8) (v0n F _).2.1) (v0n F (.str ([.h a 20]++wS "etc."))).2.2.2) (.refl _)
theorem lawRows(hK:IsX X):∀(k:Nat)(l:List Nd)(a:Str)(σ:Gs),k≤6->l.length≤3->(∀x∈l,WfN k x)->a.length+k≤13->
  FnV X (k+1) (.ref 1335) [.abs (.parts l),.str [.h a 20],nat d,nat b] σ (rowsV (listR d b (k+1) a l)) σ
 |0,l,a,σ,hk,h1,h2,ha=>c1m (n:=0) (LR:=listR d b 0) hK h1 h2 ha (Nat.le_trans (f0x (b:=b) h1 h2) (by decide)) λx hx=>(c0j (show leafOk x from(f0r h2 x hx).1)).1▸a0u
 |k+1,l,a,σ,hk,h1,h2,ha=>c1m (n:=k+1) (LR:=listR d b (k+1)) hK h1 h2 (Nat.le_trans (Nat.le_add_right ..) ha) (Nat.le_trans (g0r hk h1 h2) (by decide)) λx hx p hp=>by
   have w:=below (f0r h2 x hx).1 p hp
   exact lawRows hK k p.2 (a++wden p.1) σ (Nat.le_of_succ_le hk) w.1 w.2.1 (by rw[b0a,f0a (marks p hp),Nat.add_assoc,Nat.add_comm 1];exact ha)
end
noncomputable def forBody:List Stmt->List Stmt
 |[.For _ _ b _ _]=>b
 |[_,.For _ _ b _ _]=>b
 |_=>[]
noncomputable def clIt:Expr:=Expr.Name ("chars") ⟨625,16,625,21⟩
theorem body1098:d1098.body=[.For (Expr.Name ("code") ⟨625,8,625,12⟩) clIt (forBody d1098.body) [] ⟨625,4,631,65⟩]:=by kernel_rfl
theorem f1098:findE 1098 fns=some e1098:=by kernel_rfl
theorem f1091:findE 1091 fns=some e1091:=by kernel_rfl
theorem f1105:findE 1105 fns=some e1105:=by kernel_rfl
noncomputable def ccIt:Expr:=(((Expr.Name ("chars") ⟨613,21,613,26⟩).Attribute ("items") ⟨613,21,613,32⟩).Call [] [] ⟨613,21,613,34⟩)
theorem body1091:d1091.body=[.For (Expr.Tuple [Expr.Name ("code") ⟨613,8,613,12⟩,Expr.Name ("row") ⟨613,14,613,17⟩] 0 ⟨613,8,613,17⟩) ccIt (forBody d1091.body) [] ⟨613,4,623,54⟩]:=by kernel_rfl
noncomputable def cpIt:Expr:=(Expr.Name ("enumerate") ⟨634,22,634,31⟩).Call [Expr.Name ("program") ⟨634,32,634,39⟩] [] ⟨634,22,634,40⟩
noncomputable def cpS1:Stmt:=Stmt.Assign [Expr.Name ("many") ⟨633,4,633,8⟩] ((Expr.Name ("len") ⟨633,11,633,14⟩).Call [Expr.Name ("program") ⟨633,15,633,22⟩] [] ⟨633,11,633,23⟩) ⟨633,4,633,23⟩
theorem body1105:d1105.body=[cpS1,.For (Expr.Tuple [Expr.Name ("place") ⟨634,8,634,13⟩,Expr.Name ("row") ⟨634,15,634,18⟩] 0 ⟨634,8,634,18⟩) cpIt (forBody d1105.body) [] ⟨634,4,650,54⟩]:=by kernel_rfl
theorem w0y(y z p q u:V):look "chars" (varsOf d1098 [y] e1098.dxs)=some y∧look "chars" (varsOf d1091 [y,z] e1091.dxs)=some y:=⟨by kernel_rfl,by kernel_rfl⟩
theorem y0y:(Nat.ble [V.dct []].length e1098.D.names.length=true∧Nat.ble e1098.dxs.length e1098.D.names.length=true∧Nat.ble e1098.D.names.length ([V.dct []].length+e1098.dxs.length)=true)∧
 (Nat.ble [V.dct [],.int 0].length e1091.D.names.length=true∧Nat.ble e1091.dxs.length e1091.D.names.length=true∧Nat.ble e1091.D.names.length ([V.dct [],.int 0].length+e1091.dxs.length)=true)∧
 (Nat.ble [V.tup [],.tup [],.dct [],.int 256].length e1105.D.names.length=true∧Nat.ble e1105.dxs.length e1105.D.names.length=true∧Nat.ble e1105.D.names.length ([V.tup [],.tup [],.dct [],.int 256].length+e1105.dxs.length)=true):=
 ⟨⟨by kernel_rfl,by kernel_rfl,by kernel_rfl⟩,⟨by kernel_rfl,by kernel_rfl,by kernel_rfl⟩,⟨by kernel_rfl,by kernel_rfl,by kernel_rfl⟩⟩
noncomputable abbrev KZ:Kx:=lvl ecT fns mks (λx0 x0 x0=>none) 80 0
theorem KZ_ok{X:Cx}{n:Nat}(hK:IsX X):KxOK X n KZ:=b0z (m:=n) (a0y hK) 0 λx0 x0 x0 x0 x0 e=>by cases e
theorem cp_s1(σ:Gs):evSs (evS KZ [] d1105.sc 80) [cpS1] ⟨varsOf d1105 [.tup [],.tup [],.dct [],.int 256] e1105.dxs,none,σ⟩=some (.next,⟨("many",.int 0)::varsOf d1105 [.tup [],.tup [],.dct [],.int 256] e1105.dxs,none,σ⟩):=by kernel_rfl
theorem cp_k:look "program" (("many",.int 0)::varsOf d1105 [.tup [],.tup [],.dct [],.int 256] e1105.dxs)=some (.tup [])∧kindG d1105.sc "enumerate"=true:=⟨by kernel_rfl,by kernel_rfl⟩
noncomputable def enumT:List (Str × V):=[("enumerate",.con (.type "enumerate"))]
theorem b1i(P:Params):allB (gChk (frag P)) enumT=true:=by kernel_rfl
theorem c1i:look "enumerate" enumT=some (.con (.type "enumerate")):=by kernel_rfl
section
variable {X:Cx} {A:Around} {K:Kx} {n:Nat} {env:Env} {n₀:Bs} {vars:Vars} {ow:Option (Str × Ow)} {m cm:Str->Option Value} {f f':FH} {σ σ₁:Gs} {s:Shared} {h h':Heap} {st st':Sx} {fl:Fl}
theorem r0c{v:Value}(hv:VR X f v (.dct []))(S:St X f σ h):∃a ep,v= .ref a∧(a==sysModules)=false∧h.DictAt (intKind X.P X.w) a [] ep:=by
 cases hv using VR.eDct with
 | @dct a o kvs e1 e2 e3 e4=>
 cases e4
 obtain⟨es,ep,q⟩:=e2
 exact⟨a,ep,rfl,e3,o,es,S.isIn _ _ e1,q⟩
theorem f0j(hK:IsX X):FnV X (n+1) (.ref 1098) [.dct []] σ .none σ:=by
 have ln:=y0y.1
 refine d0i (n:=n) (fl:=.next) (st':=⟨varsOf d1098 [.dct []] e1098.dxs,none,σ⟩) hK f1098 ln.1 ln.2.1 ln.2.2 λA env B f s m cm hA hsc C R S=> ?_
 show TrS X A env B (execs d1098.body env) _ _ _ _ _
 rw[body1098]
 refine TrS.solo (k0g rfl R S λE1 E2 E3=> ?_)
 obtain⟨v,hv,hr⟩:=R.vars _ _ (w0y (.dct []) (.int 0) .none .none .none).1
 refine ld C R rfl hv ?_
 obtain⟨a,ep,rfl,ha,hd⟩:=r0c hr S
 refine wpAny_pyIter_dict ha hd ?_
 refine wpAny_pyNext_dict_end (knd:=intKind X.P X.w) (i:=0) (kvs:=[]) (hA.1 hK.lp) ⟨_,Heap.get?_push_size _ rfl,rfl,rfl⟩ (hd.push _) rfl λh' he=> ?_
 have k:Kept s.heap h':=λb o e=>he b o (Nat.ne_of_lt (Heap.lt_size e)) (Heap.get?_push_of_some _ e)
 exact⟨rfl,h',s.toks,f,rfl,k.kp,k.toSt S⟩
theorem f0y(hK:IsX X):FnV X (n+1) (.ref 1091) [.dct [],.int 0] σ .none σ:=by
 have ln:=y0y.2.1
 refine d0i (n:=n) (fl:=.next) (st':=⟨varsOf d1091 [.dct [],.int 0] e1091.dxs,none,σ⟩) hK f1091 ln.1 ln.2.1 ln.2.2 λA env B f s m cm hA hsc C R S=> ?_
 show TrS X A env B (execs d1091.body env) _ _ _ _ _
 rw[body1091]
 refine TrS.solo (k0g rfl R S λE1 E2 E3=> ?_)
 obtain⟨v,hv,hr⟩:=R.vars _ _ (w0y (.dct []) (.int 0) .none .none .none).2
 obtain⟨a,ep,rfl,ha,hd⟩:=r0c hr S
 obtain⟨o,es,ho,hX,hrest⟩:=id hd
 refine c0v (args:=[]) rfl rfl rfl rfl (ld C R rfl hv ?_)
 refine getMethod_builtin (T:="dict") ⟨o,ho,hX.1⟩ PySem.F.plainAttrs_dict PySem.F.slot_dict_items PySem.F.type_dict_items (λb e=>by cases e;exact⟨o,ho,hX.2.1⟩) ?_
 refine a0l A _ s _ [.ref a] (treesOf [] env) _ rfl (a0n (λx hx=>nomatch hx) (Calls.spliced_nil ⟨S.kin,?_⟩))
 refine call_meetsIn PySem.F.slot_dict_items hd.dictOf.typeIs PySem.F.entry_dict_items (PySem.F.args_dict_items_1 _) (meets_dict_items (intKind X.P X.w) a ha) ⟨⟨[],hd.dictOf⟩,?_⟩
 refine wpAny_pyIter_items (knd:=intKind X.P X.w) (d:=a) (kvs:=[]) (ep:=ep) ⟨_,Heap.get?_push_size _ rfl,rfl,rfl⟩ (hd.push _) ?_
 refine wpAny_pyNext_items_end (knd:=intKind X.P X.w) (i:=0) (kvs:=[]) (d:=a) (ep:=ep) (ok:=.none) (ov:=.none) (hA.1 hK.lp) (Heap.get?_push_size _ rfl) ((hd.push _).push _) rfl λh' he=> ?_
 have k:Kept s.heap h':=λb o e=>he b o (by rw[Heap.size_push];exact Nat.ne_of_lt (Nat.lt_succ_of_lt (Heap.lt_size e))) (Heap.get?_push_of_some _ (Heap.get?_push_of_some _ e))
 exact⟨rfl,h',s.toks,f,rfl,k.kp,k.toSt S⟩
theorem e0v(hK:IsX X):FnV X (n+1) (.ref 1105) [.tup [],.tup [],.dct [],.int 256] σ .none σ:=by
 have ln:=y0y.2.2
 refine d0i (n:=n) (fl:=.next) (st':=⟨("many",.int 0)::varsOf d1105 [.tup [],.tup [],.dct [],.int 256] e1105.dxs,none,σ⟩) hK f1105 ln.1 ln.2.1 ln.2.2 λA env B f s m cm hA hsc C R S=> ?_
 have EK:KxOK X n KZ:=KZ_ok hK
 have hsc:env.scope=d1105.sc:=hsc
 have HS:SndS X A env B (evS KZ [] d1105.sc 80):=by rw[←hsc];exact c0m EK hA 80 env B C
 show TrS X A env B (execs d1105.body env) _ _ _ _ _
 rw[body1105]
 refine a0w (b:=[_]) C HS [cpS1] _ _ f s m cm (cp_s1 σ) R S λf1 h1 t1 m1 cm1 le1 R1 S1=> ?_
 refine TrS.solo (k0g rfl R1 S1 λE1 E2 E3=> ?_)
 obtain⟨v,hv,hr⟩:=R1.vars _ _ cp_k.1
 have EE:EcOK X ⟨enumT,[],[],[],[],false⟩:=h0q (λh=>by cases h) ⟨by rw[hK.k];exact b1i _,rfl,rfl,rfl,rfl⟩
 refine c0l (wpAny_Name (d0a (s:={s with heap:=h1,toks:=t1}) (K:=⟨⟨enumT,[],[],[],[],false⟩,λx0 x0 x0=>none⟩) EE C S1 (by rw[hsc];exact cp_k.2) c1i rfl _ _ λva f2 h2 t2 K2 S2 r2=> ?_) rfl)
 cases r2
 rw[a0k (show allPlain [Expr.Name ("program") ⟨634,32,634,39⟩]=true from rfl)]
 refine c0g A _ _ _ [] (treesOf [Expr.Name ("program") ⟨634,32,634,39⟩] env) _ rfl (a0n (λx hx=>by cases List.mem_singleton.mp hx;rfl) ?_)
 refine Calls.spliced_cons (ld (s:={s with heap:=h2,toks:=t2}) C (R1.kp' K2) rfl hv (Calls.spliced_nil ⟨S2.kin,?_⟩))
 have hr2:=hr.mono K2.le
 cases hr2 using VR.eTup with
 | @tup a vs e1 e2=>
 cases e2
 have hl:=S2.isIn _ _ e1
 refine h0w (s:={s with heap:=h2,toks:=t2}) hl λh3 g1 g2 g3=> ?_
 refine wpAny_pyIter_enum g1 ?_
 have la:=Heap.lt_size hl
 refine wpAny_pyNext_enum_endD (St:=λi h=>IsTupIter h h2.objs.size a i∧IsTup h a #[]) (n:=0) (drawsNil (A:=A.in1) (hA.1 hK.lp) h2.objs.size a (Nat.ne_of_lt la)) g1 ⟨g2,⟨_,g3 _ _ hl,rfl,0,rfl⟩⟩ λh' he=> ?_
 have k:Kept h2 h':=λb o e=>he b o (Nat.ne_of_lt (Heap.lt_size e)) (g3 b o e)
 exact⟨rfl,h',t2,f2,rfl,K2.trans k.kp,k.toSt S2⟩
end
theorem a1c{X:Cx}{l:List V}{σ:Gs}(hb:Nat.ble l.length 4000=true):FnV X 1 (.type "list") [.tup l] σ .any σ:=⟨c0g,λA f s vs hA S hv Q E hQ=>by
 cases hv with
 |cons hV hv=>
 cases hv
 cases hV using VR.eTup with
 | @tup a vs fv rv=>
 refine call_list_seq a (T:="tuple") (.inr rfl) (S.isIn _ _ fv) rfl rfl (λh' c' hk hl=> ?_) (by rw[List.size_toArray,rv.length];exact Nat.le_trans (Nat.le_of_ble_eq_true hb) (by decide))
 have k:Kept s.heap h':=hk
 exact hQ _ _ _ _ k.kp (k.toSt S) (.any _)⟩
theorem z0v{X:Cx}{σ:Gs}:FnV X 1 (.type "dict") [.dct []] σ .any σ:=⟨c0g,λA f s vs hA S hv Q E hQ=>by
 cases hv with
 |cons hV hv=>
 cases hv
 obtain⟨a,ep,rfl,ha,hd⟩:=r0c hV S
 refine kt_call_dict (knd:=intKind X.P X.w) ha hd.dictOf (Nat.zero_le _) λh' x0 hs=> ?_
 have k:Kept s.heap h':=λb o e=>hs.extBut b o (Nat.ne_of_lt (Heap.lt_size e)) (Heap.get?_push_of_some _ e)
 exact hQ _ _ _ _ k.kp (k.toSt S) (.any _)⟩
noncomputable def ftT(T:String)(x:V)(σ:Gs):OvR IsX 1 (.type T) [x] σ:=match x with
 | .tup l=>match T with
  |"list"=>.onT (Nat.ble l.length 4000) λh=>.ok .any σ λX hK=>a1c h
  |_=>.no
 | .dct []=>match T with
  |"dict"=>.ok .any σ λX hK=>z0v
  |_=>.no
 |_=>.no
noncomputable def ftR(a:Addr)(xs:List V)(σ:Gs):OvR IsX 1 (.ref a) xs σ:=match xs with
 |[.dct []]=>.at 1098 λha=>.ok .none σ λX hK=>.re ha (f0j hK)
 |[.dct [],.int 0]=>.at 1091 λha=>.ok .none σ λX hK=>.re ha (f0y hK)
 |[.tup [],.tup [],.dct [],.int 256]=>.at 1105 λha=>.ok .none σ λX hK=>.re ha (e0v hK)
 |_=>.no
noncomputable def ovFtP:∀g xs σ,OvR IsX 1 g xs σ:=λg xs σ=>match g with
 | .type T=>match xs with
  |[x]=>ftT T x σ
  |_=>.no
 | .ref a=>ftR a xs σ
 |_=>.no
noncomputable def ovFt:Ov:=ovOf ovFtP
theorem r0j{X:Cx}(hK:IsX X):OvOK X 1 ovFt:=b0c hK
noncomputable def fontR(i:Nat):V:=.obj 1202 [("number",nat (i+1)),("name",.str (fontNm i)),("size",.int 655360),("design",.int 655360),("check",.int 0),("params",.any),("chars",.any),("program",.tup []),("kerns",.tup []),("boundary",.int 256),("edge_start",.int (-1)),("hyphen_char",.int 45),("skew_char",.int (-1))]
theorem q0h(σ:Gs):RUN ovFt (.ref 1223) [nat 1,.lst [] 0] σ=some (fontR 0,σ):=by kernel_rfl
theorem n0r(σ:Gs):RUN ovFt (.ref 1223) [nat 2,.lst [] 0] σ=some (fontR 1,σ):=by kernel_rfl
theorem Le.any(x:V):Le x .any:=λX f v x0=>.any v
theorem q0p(i:Nat):Le (fontR i) (.abs (.font i)):=by
 refine Le.trans (y:=fontV i) (Le.obj ?_) (Le.abs (d:=.font i) trivial)
 exact .cons (.refl _) (.cons (.refl _) (.cons (.any _) (.cons (.any _) (.cons (.any _) (.cons (.any _) (.cons (.any _) (.cons (.any _) (.cons (.any _) (.cons (.any _) (.cons (.any _) (.cons (.any _) (.cons (.any _) .nil))))))))))))
theorem FnV.le{X:Cx}{n:Nat}{g:Value}{xs:List V}{σ σ':Gs}{x y:V}(H:FnV X n g xs σ x σ')(hl:Le x y):FnV X n g xs σ y σ':=
 ⟨H.1,λA f s vs hA S hv Q E hQ=>H.2 A f s vs hA S hv Q E λv f' h' t' K S r=>hQ v f' h' t' K S (hl X f' v r)⟩
theorem r0q{X:Cx}(hK:IsX X)(σ:Gs):FnV X 8 (.ref 1223) [nat 1,.lst [] 0] σ (.abs (.font 0)) σ∧FnV X 8 (.ref 1223) [nat 2,.lst [] 0] σ (.abs (.font 1)) σ:=
 ⟨FnV.le (a0g hK (r0j hK) _ _ _ _ _ (q0h σ)) (q0p 0),FnV.le (a0g hK (r0j hK) _ _ _ _ _ (n0r σ)) (q0p 1)⟩
noncomputable def noneOv:Ov:=λx0 x0 x0=>none
theorem q0q{X:Cx}{n:Nat}:OvOK X n noneOv:=λx0 x0 x0 x0 x0 e=>by cases e
noncomputable def nilS:Str:=wden []
theorem e0y:nilS.length=0:=by kernel_rfl
noncomputable def depths:List Nat:=[2,1,9,0,3]
noncomputable def breadths:List Nat:=[9,1,2,3]
noncomputable def showF(d b:Nat):V:=.obj 898 [("fonts",.dct [(2,.str (wS "big"))]),("names",.abs .names),("code",.int 92),("escape",.str (wS "\\")),("depth",nat d),("breadth",nat b)]
theorem v0p(σ:Gs):depths.map (λd=>breadths.map λb=>RUN noneOv (.ref 898) [.dct [(2,.str (wS "big"))],.abs .names,.int 92,nat d,nat b] σ)=depths.map (λd=>breadths.map λb=>some (showF d b,σ)):=by kernel_rfl
theorem b1e{X:Cx}(hK:IsX X){d b:Nat}(hd:d∈depths)(hb:b∈breadths)(σ:Gs):FnV X 7 (.ref 898) [.dct [(2,.str (wS "big"))],.abs .names,.int 92,nat d,nat b] σ (.abs (.show_ d b)) σ:=by
 have e:RUN noneOv (.ref 898) [.dct [(2,.str (wS "big"))],.abs .names,.int 92,nat d,nat b] σ=some (showF d b,σ):=by
  have h1:=List.map_inj_left.mp (v0p σ) d hd
  exact List.map_inj_left.mp h1 b hb
 exact FnV.le (a0g hK (m:=0) q0q _ _ _ _ _ e) (Le.abs (d:=.show_ d b) trivial)
noncomputable def bxCall:Expr:=((Expr.Name ("Showing") ⟨588,11,588,18⟩).Call [Expr.Name ("fonts") ⟨588,19,588,24⟩,Expr.Name ("names") ⟨588,26,588,31⟩,Expr.Name ("escape") ⟨588,33,588,39⟩,Expr.Name ("depth") ⟨588,41,588,46⟩,Expr.Name ("breadth") ⟨588,48,588,55⟩] [] ⟨588,11,588,56⟩)
noncomputable def bxS1:Stmt:=.Assign [Expr.Name ("show") ⟨588,4,588,8⟩] bxCall ⟨588,4,588,56⟩
noncomputable def bxC:Expr:=(Expr.Name ("box") ⟨589,23,589,26⟩).Compare [CmpOp.Is] [Expr.Constant Const.none 0 ⟨589,30,589,34⟩] ⟨589,23,589,34⟩
noncomputable def bxE1:Expr:=Expr.List [Expr.Constant (Const.str ("void")) 0 ⟨589,12,589,18⟩] ⟨589,11,589,19⟩
noncomputable def bxL:Expr:=Expr.List [Expr.Name ("box") ⟨589,58,589,61⟩] ⟨589,57,589,62⟩
noncomputable def bxM:Expr:=Expr.Constant (Const.str ("")) 0 ⟨589,64,589,66⟩
noncomputable def bxE2:Expr:=(Expr.Name ("list_lines") ⟨589,40,589,50⟩).Call [Expr.Name ("show") ⟨589,51,589,55⟩,bxL,bxM] [] ⟨589,40,589,67⟩
noncomputable def bxS2:Stmt:=.Return (some (bxC.IfExp bxE1 bxE2 ⟨589,11,589,67⟩)) ⟨589,4,589,67⟩
theorem body1053:d1053.body=[bxS1,bxS2]:=by kernel_rfl
theorem f1053:findE 1053 fns=some e1053:=by kernel_rfl
section
variable (d b:Nat) (nd:Nd) (σ:Gs)
noncomputable def big1:V:=.dct [(2,.str (wS "big"))]
noncomputable def bxA:List V:=[.abs (.node nd),big1,nat d,nat b,.abs .names]
noncomputable def VBx:Vars:=[("box",.abs (.node nd)),("fonts",big1),("depth",nat d),("breadth",nat b),("names",.abs .names),("escape",.int 92)]
theorem vars1053:varsOf d1053 (bxA d b nd) e1053.dxs=VBx d b nd:=by kernel_rfl
theorem len1053:Nat.ble (bxA d b nd).length e1053.D.names.length=true∧Nat.ble e1053.dxs.length e1053.D.names.length=true∧Nat.ble e1053.D.names.length ((bxA d b nd).length+e1053.dxs.length)=true:=⟨by kernel_rfl,by kernel_rfl,by kernel_rfl⟩
theorem bx_k:look "fonts" (VBx d b nd)=some big1∧look "names" (VBx d b nd)=some (.abs .names)∧look "escape" (VBx d b nd)=some (.int 92)∧look "depth" (VBx d b nd)=some (nat d)∧look "breadth" (VBx d b nd)=some (nat b):=⟨by kernel_rfl,by kernel_rfl,by kernel_rfl,by kernel_rfl,by kernel_rfl⟩
theorem bx_k2(y:V):look "show" (("show",y)::VBx d b nd)=some y∧look "box" (("show",y)::VBx d b nd)=some (.abs (.node nd)):=⟨by kernel_rfl,by kernel_rfl⟩
theorem bx_g:kindG d1053.sc "Showing"=true∧look "Showing" KP.GT=some (.con (.ref 898))∧kindG d1053.sc "list_lines"=true∧look "list_lines" KP.GT=some (.con (.ref 1045)):=⟨by kernel_rfl,by kernel_rfl,by kernel_rfl,by kernel_rfl⟩
theorem bx_a:kindOk d1053.sc "show"=true∧pureOf (swapsWith bxCall (some (.Name ("show") ⟨588,4,588,8⟩)) 588 (dum d1053.sc))=some false∧seq "show" "self"=false:=⟨by kernel_rfl,by kernel_rfl,by kernel_rfl⟩
theorem bx_c(y:V):ev KP 80 d1053.sc (("show",y)::VBx d b nd) true bxC σ=some (.bool false,σ):=by kernel_rfl
end
section
variable {X:Cx} {d b:Nat} {nd:Nd} {σ:Gs}
theorem c1k(hK:IsX X)(hd:d∈depths)(hb:b∈breadths)(w:WfN 6 nd)(hn:dn nd=true->σ.nb=true)(hm:σ.md=0):FnV X 51 (.ref 1053) (bxA d b nd) σ (rowsV (listR d b 7 nilS [nd])) σ:=by
 have ln:=len1053 d b nd
 refine d0i (n:=50) (fl:=.ret (rowsV (listR d b 7 nilS [nd]))) (st':=⟨[],none,σ⟩) hK f1053 ln.1 ln.2.1 ln.2.2 λA env B f s m cm hA hsc C R S=> ?_
 have EK:KxOK X 50 KP:=e0s hK
 have hsc:env.scope=d1053.sc:=hsc
 rw[show e1053.D=d1053 from rfl,vars1053] at R
 show TrS X A env B (execs d1053.body env) _ _ _ _ _
 rw[body1053]
 have gl:=bx_g
 have kk:=bx_k d b nd
 refine TrS.ofSt (st₂:=⟨VBx d b nd,none,σ⟩) ?_
 refine TrS.consE (st₁:=⟨("show",.abs (.show_ d b))::VBx d b nd,none,σ⟩) (b0l C R S ((b0n _ _ _ env).trans (by rw[hsc];exact a0z bx_a.2.1)) (by rw[hsc];exact bx_a.1) bx_a.2.2 ?_) λf1 h1 t1 m1 cm1 le1 R1 S1=> ?_
 ·refine b0p (c:=bxCall) (σ₁:=σ) hA (b0j EK.toEcOK C S (by rw[hsc];exact gl.1) gl.2.1 rfl) rfl (xs:=[big1,.abs .names,.int 92,nat d,nat b]) (λf3 h3 t3 K3 S3=> ?_) ((b1e hK hd hb σ).at (by decide))
  have R3:=R.kp' K3
  refine a0b (a0d C R3 S3 rfl kk.1) λf4 h4 t4 K4 S4=> ?_
  refine a0b (a0d C (R3.kp' K4) S4 rfl kk.2.1) λf5 h5 t5 K5 S5=> ?_
  refine a0b (a0d C ((R3.kp' K4).kp' K5) S5 rfl kk.2.2.1) λf6 h6 t6 K6 S6=> ?_
  refine a0b (a0d C (((R3.kp' K4).kp' K5).kp' K6) S6 rfl kk.2.2.2.1) λf7 h7 t7 K7 S7=> ?_
  exact a0b (a0d C ((((R3.kp' K4).kp' K5).kp' K6).kp' K7) S7 rfl kk.2.2.2.2) λf8 h8 t8 K8 S8=>b0f S8
 ·have k2:=bx_k2 d b nd (.abs (.show_ d b))
  refine TrS.noVars (vs:=("show",.abs (.show_ d b))::VBx d b nd) (ow:=none) (TrS.single_ret (w0a (σ:=σ) (σ':=σ) (s:={s with heap:=h1,toks:=t1}) R1 ?_))
  refine h0v (bb:=false) ((b0q EK hA 80 env B (("show",.abs (.show_ d b))::VBx d b nd) none m1 cm1 C).2 bxC σ _ σ f1 {s with heap:=h1,toks:=t1} (by rw[hsc];exact bx_c d b nd σ _) R1 S1) λf2 h2 t2 K2 S2=> ?_
  rw[if_neg (by decide)]
  have R2:=R1.kp' K2
  refine b0p (c:=bxE2) (σ₁:=σ) hA (b0j (s:={s with heap:=h2,toks:=t2}) EK.toEcOK C S2 (by rw[hsc];exact gl.2.2.1) gl.2.2.2 rfl) rfl (xs:=[.abs (.show_ d b),.lst [.abs (.node nd)] 1,.str []]) (λf3 h3 t3 K3 S3=> ?_) ?_
  ·have R3:=R2.kp' K3
   refine a0b (a0d C R3 S3 rfl k2.1) λf4 h4 t4 K4 S4=> ?_
   refine a0b (k0h rfl (by show 1≤1000;decide) (a0b (a0d C (R3.kp' K4) S4 rfl k2.2) λf5 h5 t5 K5 S5=>b0f S5)) λf6 h6 t6 K6 S6=> ?_
   exact a0b (b0t (y:=.str []) S6 (by rfl)) λf7 h7 t7 K7 S7=>b0f S7
  ·have sl:=showList (d:=d) (b:=b) (X:=X) hK 6 [nd] nilS σ (Nat.le_refl _) (by show 1≤3;decide) (λx hx=>by cases List.mem_singleton.mp hx;exact w) (by rw[e0y];decide) (λh=>hn (by simpa[dnL,orB] using h)) hm
   refine(sl.at (show 38+2 * 6≤50 by decide)).arg λf vs hv=> ?_
   obtain⟨u,v,x,rfl,g1,g2,g3⟩:=hv.three'
   refine .cons g1 (.cons (Le.abs (d:=.items [nd]) (by show 1≤100;decide) X f v g2) (.one (b0b g3 rfl (by rw[e0y];decide))))
end
noncomputable def lhAbs:Expr:=(Expr.Name ("abs") ⟨737,42,737,45⟩).Call [Expr.Name ("cell") ⟨737,46,737,50⟩] [] ⟨737,42,737,51⟩
noncomputable def lhPow:Expr:=(Expr.Constant (Const.int 10) 0 ⟨737,54,737,56⟩).BinOp Operator.Pow (Expr.Constant (Const.int 30) 0 ⟨737,60,737,62⟩) ⟨737,54,737,62⟩
noncomputable def lhMod:Expr:=lhAbs.BinOp Operator.Mod lhPow ⟨737,42,737,62⟩
noncomputable def lhTwo:Expr:=lhMod.BinOp Operator.Mult (Expr.Constant (Const.int 2) 0 ⟨737,65,737,66⟩) ⟨737,42,737,66⟩
noncomputable def lhMul:Expr:=(Expr.Name ("whole_one") ⟨737,20,737,29⟩).BinOp Operator.Mult (Expr.Constant (Const.int 1000003) 0 ⟨737,32,737,39⟩) ⟨737,20,737,39⟩
noncomputable def lhAdd:Expr:=lhMul.BinOp Operator.Add lhTwo ⟨737,20,737,66⟩
noncomputable def lhNeg:Expr:=(Expr.Name ("int") ⟨737,69,737,72⟩).Call [(Expr.Name ("cell") ⟨737,73,737,77⟩).Compare [CmpOp.Lt] [Expr.Constant (Const.int 0) 0 ⟨737,80,737,81⟩] ⟨737,73,737,81⟩] [] ⟨737,69,737,82⟩
noncomputable def lhE:Expr:=lhAdd.BinOp Operator.Add lhNeg ⟨737,20,737,82⟩
noncomputable def lhB:Stmt:=.Assign [Expr.Name ("whole_one") ⟨737,8,737,17⟩] lhE ⟨737,8,737,82⟩
noncomputable def lhS1:Stmt:=.Assign [Expr.Name ("whole_one") ⟨735,4,735,13⟩] (Expr.Constant (Const.int 0) 0 ⟨735,16,735,17⟩) ⟨735,4,735,17⟩
noncomputable def lhUp:Expr:=Expr.Constant (Const.int 24) 0 ⟨736,24,736,26⟩
noncomputable def lhIt:Expr:=(Expr.Name ("script") ⟨736,16,736,22⟩).Subscript (Expr.Slice none (some lhUp) none ⟨736,23,736,26⟩) ⟨736,16,736,27⟩
noncomputable def lhS2:Stmt:=.For (Expr.Name ("cell") ⟨736,8,736,12⟩) lhIt [lhB] [] ⟨736,4,737,82⟩
noncomputable def lhL:List Expr:=[Expr.Name ("whole_one") ⟨738,12,738,21⟩,Expr.Constant (Const.int 0) 0 ⟨738,23,738,24⟩]
noncomputable def lhS3:Stmt:=.Return (some (Expr.List lhL ⟨738,11,738,25⟩)) ⟨738,4,738,25⟩
theorem body1244:d1244.body=[lhS1,lhS2,lhS3]:=by kernel_rfl
theorem f1244:findE 1244 fns=some e1244:=by kernel_rfl
noncomputable def scI(l:List Int):List V:=l.map .int
noncomputable def VH(c:Int)(n:Nat):Vars:=[("cell",.int c),("whole_one",.int (Int.ofNat n))]
section
variable (c:Int) (n:Nat) (σ:Gs) (l:List Int)
theorem lh_k:look "cell" (VH c n)=some (.int c)∧look "whole_one" (VH c n)=some (.int (Int.ofNat n)):=⟨by kernel_rfl,by kernel_rfl⟩
theorem c1p:ev KP 80 d1244.sc (VH c n) false lhAbs σ=some (.int (Int.ofNat c.natAbs),σ):=by kernel_rfl
noncomputable def negI(c:Int):Int:=match decide (c<0) with|true=>1|false=>0
theorem e1f:ev KP 80 d1244.sc (VH c n) false lhNeg σ=some (.int (negI c),σ):=by kernel_rfl
theorem lh_a:kindOk d1244.sc "whole_one"=true∧pureOf (swapsWith lhE (some (.Name ("whole_one") ⟨737,8,737,17⟩)) 737 (dum d1244.sc))=some false∧seq "whole_one" "self"=false:=⟨by kernel_rfl,by kernel_rfl,by kernel_rfl⟩
theorem d1r(y:Int)(k:Nat):asg d1244.sc (.Name "cell" ⟨736,8,736,12⟩) (.int y) ⟨[("whole_one",.int (Int.ofNat k))],none,σ⟩=some ⟨VH y k,none,σ⟩:=by kernel_rfl
theorem lh_k3(y:V):look "whole_one" (("whole_one",y)::VH c n)=some y:=by kernel_rfl
theorem vars1244:varsOf d1244 [.lst (scI l) 1000] e1244.dxs=([("script",.lst (scI l) 1000)]:Vars):=by kernel_rfl
theorem len1244:Nat.ble [V.lst (scI l) 1000].length e1244.D.names.length=true∧Nat.ble e1244.dxs.length e1244.D.names.length=true∧Nat.ble e1244.D.names.length ([V.lst (scI l) 1000].length+e1244.dxs.length)=true:=⟨by kernel_rfl,by kernel_rfl,by kernel_rfl⟩
theorem lh_k4:look "script" ([("whole_one",V.int 0),("script",.lst (scI l) 1000)]:Vars)=some (.lst (scI l) 1000)∧look "whole_one" [("whole_one",V.int 0),("script",.lst (scI l) 1000)]=some (.int (Int.ofNat 0)):=⟨by kernel_rfl,by kernel_rfl⟩
end
noncomputable def stepH(n:Nat)(c:Int):Nat:=n * 1000003+c.natAbs % 10 ^ 30 * 2+(negI c).toNat
theorem opMul{i j:Int}(h:j.natAbs<2 ^ 31):opV .Mult (.int i) (.int j)=some (.int (i * j)):=by
 have e:((V.int i).small i||(V.int j).small j)=true:=by rw[show(V.int j).small j=true from decide_eq_true h,Bool.or_true]
 unfold opV opP
 rw[show binVP .Mult (.int i) (.int j)=onT ((V.int i).small i||(V.int j).small j) _ from rfl,t0c e]
 rfl
section
variable {X:Cx} {A:Around} {n k:Nat} {env:Env} {n₀:Bs} {vars:Vars} {ow:Option (Str × Ow)} {m cm:Str->Option Value} {f:FH} {σ:Gs} {s:Shared} {st st':Sx} {fl:Fl} {c:Int}
theorem e1m{l r:Expr}{pos:Pos}{a b:Nat}(hb:b≠0)(HL:Tr X A (eval l env) f σ s (.int (Int.ofNat a)) σ)(HR:∀f' h' t',Kp X f s.heap f' h'->St X f' σ h'->Tr X A (eval r env) f' σ {s with heap:=h',toks:=t'} (.int (Int.ofNat b)) σ):
  Tr X A (eval (.BinOp l .Mod r pos) env) f σ s (.int (Int.ofNat (a % b))) σ:=by
 refine c0n HL HR λt u f' s' S' Q E hQ=> ?_
 refine PySem.AutoIntOps.mod_1 (λq=>hb (Int.ofNat.inj (eq_of_beq q))) ?_
 show Q (.int ((Int.ofNat a).fmod (Int.ofNat b)) _) _
 rw[show(Int.ofNat a).fmod (Int.ofNat b)=Int.ofNat (a % b) by
  show((a:Int)).fmod (b:Int)=((a % b:Nat):Int)
  rw[Int.fmod_eq_emod_of_nonneg _ (Int.natCast_nonneg b)];rfl]
 exact hQ _ _ _ _ Kp.refl S' (.int _ _)
theorem d1a(S:St X f σ s.heap):Tr X A (eval lhPow env) f σ s (.int (Int.ofNat (10 ^ 30))) σ:=by
 refine c0n (b0t (y:=.int 10) S (by rfl)) (λf' h' t' K' S'=>b0t (y:=.int 30) S' (by rfl)) λt u f' s' S' Q E hQ=> ?_
 refine PySem.AutoIntOps.pow_4 (by decide) (by decide) (by decide) (by decide) (by decide+kernel) ?_
 exact hQ _ _ _ _ Kp.refl S' (.int _ _)
theorem lh_tr(hK:IsX X)(hA:Room X A n)(hsc:env.scope=d1244.sc)(C:Cz X env n₀)(R:Rel X env n₀ f s.heap (VH c k) ow m cm)(S:St X f σ s.heap):Tr X A (eval lhE env) f σ s (.int (Int.ofNat (stepH k c))) σ:=by
 have EK:KxOK X n KP:=e0s hK
 have kk:=lh_k c k
 have E:=λe y (f':FH)(s':Shared)(he:ev KP 80 d1244.sc (VH c k) false e σ=some (y,σ))(R':Rel X env n₀ f' s'.heap (VH c k) ow m cm) S'=>(b0q EK hA 80 env n₀ (VH c k) ow m cm C).1 e σ y σ f' s' (by rw[hsc];exact he) R' S'
 have hneg:∀c:Int,negI c=Int.ofNat (negI c).toNat:=λc=>by unfold negI;split<;>rfl
 have e1:Int.ofNat (stepH k c)=Int.ofNat (k * 1000003+c.natAbs % 10 ^ 30 * 2)+negI c:=by rw[hneg c];rfl
 rw[e1]
 refine b0e (x:=.int (Int.ofNat (k * 1000003+c.natAbs % 10 ^ 30 * 2))) (y:=.int (negI c)) ?_ (λf' h' t' K' S'=>E lhNeg _ f' _ (e1f c k σ) (R.kp' K') S') rfl
 have e2:(Int.ofNat (k * 1000003+c.natAbs % 10 ^ 30 * 2))=Int.ofNat k * 1000003+Int.ofNat (c.natAbs % 10 ^ 30) * 2:=rfl
 rw[e2]
 refine b0e (x:=.int (Int.ofNat k * 1000003)) (y:=.int (Int.ofNat (c.natAbs % 10 ^ 30) * 2)) (b0e (a0d C R S rfl kk.2) (λf' h' t' K' S'=>b0t (y:=.int 1000003) S' (by rfl)) (opMul (by decide))) (λf1 h1 t1 K1 S1=> ?_) rfl
 refine b0e (x:=.int (Int.ofNat (c.natAbs % 10 ^ 30))) ?_ (λf' h' t' K' S'=>b0t (y:=.int 2) S' (by rfl)) (opMul (by decide))
 exact e1m (by decide) (E lhAbs _ f1 _ (c1p c k σ) (R.kp' K1) S1) λf' h' t' K' S'=>d1a S'
theorem bH_ok(hK:IsX X)(hA:Room X A n)(hsc:env.scope=d1244.sc):BodyOK X A env [lhB] ⟨VH c k,none,σ⟩ .next ⟨[("whole_one",.int (Int.ofNat (stepH k c)))],none,σ⟩:=λB f s m cm C R S=>
 TrS.single (TrS.weakE (vs:=("whole_one",.int (Int.ofNat (stepH k c)))::VH c k) (TrS.ofSt (b0l C R S ((b0n _ _ _ env).trans (by rw[hsc];exact a0z lh_a.2.1)) (by rw[hsc];exact lh_a.1) lh_a.2.2 (lh_tr hK hA hsc C R S))) (.same (lh_k3 ..) .nil))
end
theorem lh_k5(k:Nat):look "whole_one" ([("whole_one",.int (Int.ofNat k))]:Vars)=some (.int (Int.ofNat k)):=by kernel_rfl
theorem lh_e1(σ:Gs)(l:List Int):evS KP [] d1244.sc 80 lhS1 ⟨[("script",.lst (scI l) 1000)],none,σ⟩=some (.next,⟨[("whole_one",.int 0),("script",.lst (scI l) 1000)],none,σ⟩):=by kernel_rfl
section
variable {X:Cx} {A:Around} {n:Nat} {f:FH} {σ:Gs} {s:Shared}
theorem y0x(hK:IsX X){l:List Int}(hl:l.length≤1000){vs:List Value}(hA:Room X A (n+1))(S:St X f σ s.heap)(hv:VRs X f vs [.lst (scI l) 1000]){Q:Value->Shared->Prop}{E:Value->Shared->Prop}
  (hQ:∀a N t u k f' h' tk,Kp X f s.heap f' h'->St X f' σ h'->h'.get? a=some (listOf (List.toArray [Value.int (Int.ofNat N) t,.int 0 u]) k)->New X f' s.heap a->Q (.ref a) {s with heap:=h',toks:=tk}):
  wpAny X.M A (call (.ref 1244) vs) Q E s:=by
 obtain⟨hF,hs,hd⟩:=(a0y hK).fn e1244 (a0q f1244).1
 have ln:=len1244 l
 have hdl:d1244.dv.length=e1244.dxs.length:=(hd f S.base).length
 refine wpAny_call ?_
 refine c0d (D:=d1244) (a:=1244) (B:=⟨f,s.heap,[],none⟩) (dxs:=e1244.dxs) hF hs S Kp.refl rfl (statics S) hv (hd f S.base) (by rw[hv.length];exact Nat.le_of_ble_eq_true ln.1) (by rw[hdl];exact Nat.le_of_ble_eq_true ln.2.1) (by rw[hv.length,hdl];exact Nat.le_of_ble_eq_true ln.2.2) hA.rec (ow:=none)
  (λenv h m cm x0 x0 x0 x o e=>by cases e) (λv e=>by cases e) λenv h t m cm hsc C R S0=> ?_
 have hA':Room X (A.deeper env) n:=hA.deeper env
 have EK:KxOK X n KP:=e0s hK
 have HS:SndS X (A.deeper env) env ⟨f,s.heap,[],none⟩ (evS KP [] d1244.sc 80):=by rw[←hsc];exact c0m EK hA' 80 env _ C
 rw[vars1244] at R
 rw[body1244]
 refine wpAny_execs_cons (HS lhS1 _ _ _ f {s with heap:=h,toks:=t} m cm (lh_e1 σ l) R S0 _ _ λfl' f1 h1 t1 m1 cm1 r1 le1 S1 R1=> ?_)
 cases r1
 have k4:=lh_k4 l
 refine wpAny_execs_cons (d0b (s:={s with heap:=h1,toks:=t1}) (st:=⟨[],none,σ⟩) (it:=.lst ((scI l).take 24) (scI l).length) .int (l.take 24) (λdone=>⟨[("whole_one",.int (Int.ofNat (done.foldl stepH 0)))],none,σ⟩) (hA'.1 hK.lp) C e0b (R1.weakL (.same k4.2 .nil)) S1 ?_ (congrArg some List.map_take.symm) rfl (λdone p rest e=> ?_) _ _ λfl' f2 h2 t2 m2 cm2 r2 le2 S2 R2=> ?_)
 ·exact j0s (a0d C R1 S1 rfl k4.1) (λf' h' t' K' S'=>b0t (y:=.int 24) S' (by rfl)) (uv:=.int 24) (b:=24) rfl (λo r=>rfl) (Nat.le_trans (Nat.le_of_eq (List.length_map ..)) (Nat.le_trans hl (by decide)))
 ·refine⟨_,(congrArg (λz=>asg z _ _ _) hsc).trans (d1r σ p _),?_⟩
  show BodyOK X _ env _ _ _ ⟨[("whole_one",.int (Int.ofNat ((done++[p]).foldl stepH 0)))],none,σ⟩
  rw[List.foldl_append]
  exact bH_ok hK hA' hsc
 ·cases r2
  refine wpAny_execs_cons (wpAny_Return_some (List_ ?_))
  rw[a0k (show allPlain lhL=true from rfl)]
  refine a0b (a0d (s:={s with heap:=h2,toks:=t2}) C R2 S2 rfl (lh_k5 _)) (λf3 h3 t3 K3 S3=>a0b (b0t (y:=.int 0) S3 (by rfl)) λf4 h4 t4 K4 S4=>b0f S4) _ _ λvs f5 h5 t5 K5 S5 r5=> ?_
  obtain⟨u,v,rfl,g1,g2⟩:=r5.two'
  cases g1 using VR.eInt with|int t=>
  cases g2 using VR.eInt with|int u=>
  refine wpAny_newList ?_ (by show 2≤sizeLine;rw[line24];decide)
  have R5:=(R2.kp' K5).kp
  have dd:s.heap.get? h5.objs.size=none:=Option.eq_none_iff_forall_ne_some.mpr λo q=>Nat.lt_irrefl _ (Heap.lt_size (R5.keep _ _ q (f0o S5)))
  have fd:f5 h5.objs.size=none:=Option.eq_none_iff_forall_ne_some.mpr λo q=>Nat.lt_irrefl _ (Heap.lt_size (S5.isIn _ _ q))
  exact hQ h5.objs.size _ t u 0 f5 _ t5 (R5.trans (Kp.push _)) S5.push (Heap.get?_push_size _ rfl) ⟨dd,f0o S5,fd⟩
end
section
variable {X:Cx} {A:Around} {K:Kx} {n:Nat} {env:Env} {n₀:Bs} {vars:Vars} {m cm:Str->Option Value} {f:FH} {σ σ':Gs} {s:Shared} {h h':Heap} {a:Addr} {xs dxs:List V} {D:FnD} {o:Ow}
theorem u0y{P:FH->Heap->Value->Heap->Prop}{C g:Addr}(hM:Mk X.K C g)(hF:FnIs X.K g D)(hs:ScOk D)(hd:∀f,BaseIn X f->VRs X f D.dv dxs){ns:List Str}(hn:D.names=("self":Str)::ns)
  (h1:Nat.ble (xs.length+1) D.names.length=true)(h2:Nat.ble dxs.length D.names.length=true)(h3:Nat.ble D.names.length (xs.length+1+dxs.length)=true)
  (H:∀(A:Around)(env:Env)(B:Bs)(f:FH)(s:Shared)(m cm:Str->Option Value)(self:Value),Room X A n->env.scope=D.sc->Cz X env B->B.pins=[]->B.me=some self->Rel X env B f s.heap (varsOf D (.any::xs) dxs) (some ("self",.ins C [])) m cm->St X f σ s.heap->
   ∀(Q:Flow->Shared->Prop)(E:Value->Shared->Prop),(∀f' h' t',Kp X B.f₀ B.h₀ f' h'->St X f' σ' h'->P f' B.h₀ self h'->Q .next {s with heap:=h',toks:=t'})->wpAny X.M A (execs D.body env) Q E s):CW X (.ref C)∧∀(A:Around)(f:FH)(s:Shared)(vs:List Value),Room X A (n+1)->St X f σ s.heap->VRs X f vs xs->∀(Q E:Value->Shared->Prop),
  (∀w f' h' t',Kp X f s.heap f' h'->St X f' σ' h'->P f' s.heap w h'->Q w {s with heap:=h',toks:=t'})->wpAny X.M A (call (.ref C) vs) Q E s:=by
 refine⟨e0u hM.keep,λA f s vs hA S hv Q E hQ=>wpAny_call ?_⟩
 obtain⟨h,gs,dr,t,os⟩:=s
 dsimp only at S hQ ⊢
 refine make_core (makes_of S.kin hM.makes) (looks_findIn S.kin hM.init) (λself=>bind_fn S.kin self hM.fn) (.inl rfl) ?_
 have S1:St X f σ (h.push emptyDict):=S.push
 have S2:St X f σ ((h.push emptyDict).push (instObj C h.objs.size)):=S1.push
 have K2:Kp X f h f ((h.push emptyDict).push (instObj C h.objs.size)):=(Kp.push _).trans (Kp.push _)
 have hsz:(h.push emptyDict).objs.size=h.objs.size+1:=Heap.size_push ..
 have gx:((h.push emptyDict).push (instObj C h.objs.size)).get? (h.objs.size+1)=some (instObj C h.objs.size):=by rw[←hsz];exact Heap.get?_push_size _ rfl
 have gd:((h.push emptyDict).push (instObj C h.objs.size)).get? h.objs.size=some emptyDict:=Heap.get?_push_of_some _ (Heap.get?_push_size _ rfl)
 have fr:∀c,h.objs.size≤c->Fresh X ⟨f,h,[],some (.ref (h.objs.size+1))⟩ f c:=λc hc=>by
  have d:h.get? c=none:=Heap.get?_none_of_le hc
  refine⟨d,λhg=>Nat.lt_irrefl _ (Nat.lt_of_lt_of_le (S.inv.lt c hg) hc),?_,λp hp=>nomatch hp⟩
  exact b0i (λo q=>S.isIn _ _ q) (d)
 have hdv:=hd f S.base
 have l1:=hv.length
 have l2:=hdv.length
 have hdep:(A.under (.builtin "type.__call__" ⟨.ref C::vs,[]⟩)).depth=A.depth+1:=rfl
 refine c0d (s:=⟨(h.push emptyDict).push (instObj C h.objs.size),gs,dr,t,os⟩) (B:=⟨f,h,[],some (.ref (h.objs.size+1))⟩) hF hs S2 K2 rfl (statics S) (vs:=.ref (h.objs.size+1)::vs) (xs:=.any::xs) (.cons (.any _) hv) hdv
  (by rw[List.length_cons,l1];exact Nat.le_of_ble_eq_true h1) (by rw[l2];exact Nat.le_of_ble_eq_true h2) (by rw[List.length_cons,l1,l2];exact Nat.le_of_ble_eq_true h3) (by rw[hdep];have:=hA.2.1;show A.depth+1<1000;lia)
  (ow:=some ("self",.ins C [])) (λenv h' m cm hk hne hval x o e=> ?_) (λv e=> ?_) λenv h' t' m cm hsc C' R S'=> ?_
 ·cases e
  refine⟨.ref (h.objs.size+1),hval _ _ (by rw[hn];exact .head _),h.objs.size+1,h.objs.size,[],0,rfl,hk _ _ gx,hk _ _ gd,.nil,⟨fr _ (Nat.le_succ _),hne _ ⟨_,gx⟩⟩,⟨fr _ (Nat.le_refl _),hne _ ⟨_,gd⟩⟩,by simp⟩
 ·cases e
  rw[hn];exact .head _
 ·have hr:Room X ((A.under (.builtin "type.__call__" ⟨.ref C::vs,[]⟩)).deeper env) n:=by
   obtain⟨a,b,c⟩:=hA
   refine⟨a,?_,?_⟩
   ·show A.depth+1+1+2 * n<900;lia
   ·show A.units+_+3+16 * n+200<cLine
    have:(Code.builtin "type.__call__" ⟨.ref C::vs,[]⟩).cUnits≤13:=Nat.le_of_ble_eq_true (by kernel_rfl)
    lia
  refine H _ env _ f ⟨h',gs,dr,t',os⟩ m cm (.ref (h.objs.size+1)) hr hsc C' rfl rfl R S' _ _ λf' h'' t'' K' S'' N=>⟨rfl,hQ _ f' h'' t'' K' S'' N⟩
theorem m0i(EK:KxOK X n K)(hA:Room X A n)(C:Cz X env n₀){x a:Str}{D:Addr}{fs:List (Str × V)}{p q lp pos:Pos}(R:Rel X env n₀ f s.heap vars (some (x,.ins D fs)) m cm)(S:St X f σ s.heap)(ho:okName x=true)
  (hk:setOk K.toEc D a=true)(hl:Nat.ble fs.length 900=true){Q:Flow->Shared->Prop}{E:Value->Shared->Prop}
  (hQ:∀L h' t',(L==sysModules)=false->(∀p∈n₀.pins,p.1≠L)->St X f σ h'->Rel X env {n₀ with pins:=(L,{cls:=.type "dict",data:=.dict #[]})::n₀.pins} f h' vars (some (x,.ins D (putF a (.con (.ref L)) fs))) m cm->Q .next {s with heap:=h',toks:=t'}):
  wpAny X.M A (exec (.Assign [.Attribute (.Name x p) a q] (.Dict [] [] lp) pos) env) Q E s:=by
 obtain⟨o1,o2⟩:=a0v ho
 refine plainObj_wpAny_Assign_Attribute (wpAny_Dict_empty ?_) (a0r rfl)
 obtain⟨R2,S2⟩:=R.pinNew C S (o:={cls:=.type "dict",data:=.dict #[]}) rfl
 obtain⟨v,hv,O⟩:=R2.own _ _ rfl
 refine wpAny_Name (b0o (s:={s with heap:=s.heap.push {cls:=.type "dict",data:=.dict #[]}}) (C.pins _) R2.fm hv o2 ?_) o1
 refine d0f (s:={s with heap:=s.heap.push {cls:=.type "dict",data:=.dict #[]}}) EK.toEcOK (C.pins _) R2 S2 hk hl (.con _) hv λh3 t3 S3 R3=> ?_
 have sz:(s.heap.objs.size==sysModules)=false:=by
  obtain⟨mc,⟨o,es,ep,e,r⟩,hm⟩:=S.nolim
  have h2:(2:Nat)<s.heap.objs.size:=Heap.lt_size e
  exact beq_eq_false_iff_ne.mpr (show s.heap.objs.size≠1 by lia)
 exact hQ s.heap.objs.size h3 t3 sz (λp hp q=>by have:=(R.pin p hp).1;rw[q,dead] at this;cases this) S3 R3
inductive NamesNew(X:Cx)(f':FH)(h:Heap):Value->Heap->Prop
 |mk {a d:Addr} {es:List DictEntry} {k:Nat} {D1 L:Addr} {h':Heap} (g1:h'.get? a=some (instObj 819 d)) (g2:h'.get? d=some {cls:=.type "dict",data:=.dict (List.toArray es) k})
  (g3:VRd X f' es [("most",.int 1048576),("numbers",.con (.ref D1)),("texts",.con (.ref L))]) (g4:h'.get? D1=some {cls:=.type "dict",data:=.dict #[]}) (g5:h'.get? L=some (listOf #[] 0))
  (n1:New X f' h a) (n2:New X f' h d) (n3:New X f' h D1) (n4:New X f' h L) (ne:a≠d) (n12:D1≠L) (a1:D1≠a) (a2:L≠a) (b1:D1≠d) (b2:L≠d) (hD:(D1==sysModules)=false):NamesNew X f' h (.ref a) h'
noncomputable def nmA:Stmt:=Stmt.If (Expr.UnaryOp UnaryOp.Not ((Expr.Name ("is_whole") ⟨359,15,359,23⟩).Call [Expr.Name ("most") ⟨359,24,359,28⟩,Expr.Constant (Const.int 1) 0 ⟨359,30,359,31⟩,Expr.Name ("MOST_NAMES") ⟨359,33,359,43⟩] [] ⟨359,15,359,44⟩) ⟨359,11,359,44⟩)
  [Stmt.Raise (some ((Expr.Name ("BadArgument") ⟨360,18,360,29⟩).Call [Expr.Constant (Const.str ("how many names there may be")) 0 ⟨360,30,360,59⟩] [] ⟨360,18,360,60⟩)) none ⟨360,12,360,60⟩] [] ⟨359,8,360,60⟩
noncomputable def nmB:Stmt:=Stmt.Assign [(Expr.Name ("self") ⟨361,8,361,12⟩).Attribute ("most") ⟨361,8,361,17⟩] (Expr.Name ("most") ⟨361,20,361,24⟩) ⟨361,8,361,24⟩
noncomputable def nmS2:Stmt:=Stmt.Assign [(Expr.Name ("self") ⟨362,8,362,12⟩).Attribute ("numbers") ⟨362,8,362,20⟩] (Expr.Dict [] [] ⟨362,23,362,25⟩) ⟨362,8,362,25⟩
noncomputable def nmS3:Stmt:=Stmt.Assign [(Expr.Name ("self") ⟨363,8,363,12⟩).Attribute ("texts") ⟨363,8,363,18⟩] (Expr.List [] ⟨363,21,363,23⟩) ⟨363,8,363,23⟩
theorem body788:d788.body=[nmA,nmB,nmS2,nmS3]:=by kernel_rfl
theorem f788:findE 788 fns=some e788:=by kernel_rfl
theorem m819:lookA 819 mks=some 788:=by kernel_rfl
theorem names788:d788.names=("self":Str)::["most"]:=by kernel_rfl
noncomputable abbrev KN:Kx:=lvl ecT fns mks noOv 80 3
noncomputable def VN0:Vars:=[("self",.any),("most",.int 1048576)]
theorem vars788:varsOf d788 [.any] e788.dxs=VN0:=by kernel_rfl
theorem nm1(σ:Gs):evS KN [] d788.sc 80 nmA ⟨VN0,some ("self",.ins 819 []),σ⟩=some (.next,⟨VN0,some ("self",.ins 819 []),σ⟩):=by kernel_rfl
theorem nm2(σ:Gs):evS KN [] d788.sc 80 nmB ⟨VN0,some ("self",.ins 819 []),σ⟩=some (.next,⟨VN0,some ("self",.ins 819 [("most",.int 1048576)]),σ⟩):=by kernel_rfl
theorem sets819:setOk KN.toEc 819 "numbers"=true∧setOk KN.toEc 819 "texts"=true:=⟨by kernel_rfl,by kernel_rfl⟩
theorem putN(L1:Addr):putF "numbers" (.con (.ref L1)) ([("most",.int 1048576)]:List (Str × V))=([("most",.int 1048576),("numbers",.con (.ref L1))]:List (Str × V)):=by kernel_rfl
theorem putN2(L1 L2:Addr):putF "texts" (.con (.ref L2)) ([("most",.int 1048576),("numbers",.con (.ref L1))]:List (Str × V))=([("most",.int 1048576),("numbers",.con (.ref L1)),("texts",.con (.ref L2))]:List (Str × V)):=by kernel_rfl
theorem l0p(hK:IsX X):CW X (.ref 819)∧∀(A:Around)(f:FH)(s:Shared)(vs:List Value),Room X A (n+4)->St X f σ s.heap->VRs X f vs []->∀(Q E:Value->Shared->Prop),
  (∀w f' h' t',Kp X f s.heap f' h'->St X f' σ h'->NamesNew X f' s.heap w h'->Q w {s with heap:=h',toks:=t'})->wpAny X.M A (call (.ref 819) vs) Q E s:=by
 obtain⟨hm,_⟩:=a0q f788
 obtain⟨t1,t2,t3⟩:=(a0y hK).fn _ hm
 have EK:KxOK X (n+3) KN:=b0z (m:=n) (a0y hK) 3 d0k
 refine u0y (n:=n+3) (P:=NamesNew X) (D:=d788) (dxs:=e788.dxs) ((a0y hK).made _ (b0h m819)) t1 t2 t3 names788 (by kernel_rfl) (by kernel_rfl) (by kernel_rfl) λA env B f s m cm self hA hsc C hpins hself R S Q E hQ=> ?_
 rw[body788]
 rw[vars788] at R
 have HS:SndS X A env B (evS KN [] d788.sc 80):=by rw[←hsc];exact c0m EK hA 80 env B C
 refine wpAny_execs_cons (HS _ _ _ _ f s m cm (nm1 σ) R S _ _ λfl' f1 h1 tk1 m1 cm1 r1 le1 S1 R1=> ?_)
 cases r1
 refine wpAny_execs_cons (HS _ _ _ _ f1 {s with heap:=h1,toks:=tk1} m1 cm1 (nm2 σ) R1 S1 _ _ λfl' f2 h2 tk2 m2 cm2 r2 le2 S2 R2=> ?_)
 cases r2
 refine wpAny_execs_cons (m0i (s:={s with heap:=h2,toks:=tk2}) EK hA C R2 S2 (by kernel_rfl) sets819.1 rfl λD1 h3 tk3 hD d1 S3 R3=> ?_)
 rw[putN] at R3
 refine wpAny_execs_cons (e0l (s:={s with heap:=h3,toks:=tk3}) (k:=80) (es:=[]) (xs:=[]) EK hA (C.pins _) R3 S3 (by kernel_rfl) sets819.2 rfl rfl rfl rfl λL vs2 f4 h4 tk4 le4 v2 d2 S4 R4=> ?_)
 rw[putN2] at R4
 refine wpAny_execs_nil ?_
 obtain⟨v,hv,a,d,es,k,rfl,g1,g2,g3,o1,o2,ne⟩:=R4.own _ _ rfl
 have:=R4.me _ hself
 rw[hv] at this
 cases this
 cases v2
 have p1:=R4.pin _ (.tail _ (.head _))
 have p2:=R4.pin _ (.head _)
 exact hQ f4 h4 tk4 R4.kp S4 (.mk g1 g2 g3 p1.1 p2.1 ⟨o1.1.at0,o1.1.ng,o1.1.off⟩ ⟨o2.1.at0,o2.1.ng,o2.1.off⟩ ⟨p1.2.2.1,p1.2.1,p1.2.2.2⟩ ⟨p2.2.2.1,p2.2.1,p2.2.2.2⟩ ne (d2 _ (.head _)) (o1.1.pin _ (.tail _ (.head _))) (o1.1.pin _ (.head _)) (o2.1.pin _ (.tail _ (.head _))) (o2.1.pin _ (.head _)) hD)
end
noncomputable def FrL(X:Cx)(base h:Heap)(l:List Env):Prop:=∀env∈l,env.scope.kind≠.module∧∃L o,env.frame=some L∧¬X.G L∧base.get? L=none∧h.get? L=some o∧∀vs,o.data≠.fields vs
theorem FrL.kp{X:Cx}{base h h':Heap}{f f':FH}{l:List Env}(F:FrL X base h l)(K:Kp X f h f' h'):FrL X base h' l:=λenv he=>by
 obtain⟨a,L,o,b1,b2,b3,b4,b5⟩:=F env he
 exact⟨a,L,o,b1,b2,b3,K.keep _ _ b4 b2,b5⟩
theorem FrL.all{X:Cx}{base h:Heap}:∀{l:List Env},FrL X base h l->h.FunFrames base l
 |[],_=>trivial
 |env::r,F=>by
  obtain⟨a,L,o,b1,b2,b3,b4,b5⟩:=F env (.head _)
  exact⟨a,⟨L,o,b1,b3,b4,b5⟩,FrL.all λe he=>F e (.tail _ he)⟩
theorem FrL.push{X:Cx}{base h:Heap}{l:List Env}{env:Env}{B:Bs}{f:FH}{vars:Vars}{ow:Option (Str × Ow)}{m cm:Str->Option Value}(F:FrL X base h l)(C:Cz X env B)(R:Rel X env B f h vars ow m cm)(hf:env.frame=some env.locals)(hb:base.StaysIn B.h₀):FrL X base h (env::l):=by
 intro e he
 rcases List.mem_cons.mp he with rfl|he
 ·refine⟨by rw[C.kind];decide,?_⟩
  obtain⟨o,es,ep,h1,h2,_⟩:=R.fm.ns
  refine⟨e.locals,o,hf,R.fm.lo.ng,?_,h1,λvs q=>by rw[h2] at q;cases q⟩
  exact b0i (λo' q=>hb _ _ q) (R.fm.lo.at0)
 ·exact F e he
noncomputable def Fly(base g₀:Heap)(l:List Env)(e:Addr)(h:Heap):Prop:=(∃t,Heap.FlyingW base l e (.ref 52) (.ref t) h)∧g₀.UpToSlots h
section
variable {X:Cx} {A:Around} {n:Nat} {env:Env} {outer:List Env} {base g₀:Heap} {s:Shared} {e:Addr} {Q:Unit->Shared->Prop} {E:Value->Shared->Prop}
theorem k0j(hfr:A.frames=some outer)(F:FrL X base s.heap (env::outer)){t d:Addr}(he:s.heap.get? e=some (excObj t d))(hb:base.StaysIn s.heap)(h0:base.get? e=none)(hU:g₀.UpToSlots s.heap)
  (hQ:∀h',Fly base g₀ outer e h'->Q () {s with heap:=h'}):wpAny X.M (A.deeper env) (leaving env (.ref e)) Q E s:=by
 obtain⟨_,L,o,b1,_⟩:=F env (.head _)
 refine wpAny_leaving_firstW (a0:=.ref t) (Around.frames_deeper hfr) F.all b1 he hb h0 rfl rfl rfl λh' hl=> ?_
 obtain⟨l1,⟨_,_,l2⟩,l3,l4⟩:=hl
 exact hQ h' ⟨⟨t,l1,h0,l2,l3⟩,hU.trans l4⟩
theorem m0t(hfr:A.frames=some outer)(hf:env.frame=some env.locals)(F:Fly base g₀ (env::outer) e s.heap)(hQ:∀h',Fly base g₀ outer e h'->Q () {s with heap:=h'}):wpAny X.M (A.deeper env) (leaving env (.ref e)) Q E s:=by
 obtain⟨⟨t,F⟩,U⟩:=F
 exact wpAny_leaves_onW (Around.frames_deeper hfr) hf F λh' F' U'=>hQ h' ⟨⟨t,F'⟩,U.trans U'⟩
end
noncomputable def shC:Expr:=(Expr.BoolOp BoolOp.Or [Expr.UnaryOp UnaryOp.Not ((Expr.Name ("is_whole") ⟨443,15,443,23⟩).Call [Expr.Name ("depth") ⟨443,24,443,29⟩,Expr.Constant (Const.int 0) 0 ⟨443,31,443,32⟩,Expr.Name ("MOST_DEPTH") ⟨443,34,443,44⟩] [] ⟨443,15,443,45⟩) ⟨443,11,443,45⟩,
 Expr.UnaryOp UnaryOp.Not ((Expr.Name ("is_whole") ⟨443,53,443,61⟩).Call [Expr.Name ("breadth") ⟨443,62,443,69⟩,Expr.Constant (Const.int 1) 0 ⟨443,71,443,72⟩,Expr.Name ("MOST_BREADTH") ⟨443,74,443,86⟩] [] ⟨443,53,443,87⟩) ⟨443,49,443,87⟩] ⟨443,11,443,87⟩)
noncomputable def shR:Stmt:=Stmt.Raise (some ((Expr.Name ("BadArgument") ⟨444,18,444,29⟩).Call [Expr.Constant (Const.str ("no depth or breadth that can be shown")) 0 ⟨444,30,444,69⟩] [] ⟨444,18,444,70⟩)) none ⟨444,12,444,70⟩
noncomputable def tailS:List Stmt->List Stmt
 |_::r=>r
 |_=>[]
theorem body895:d895.body= .If shC [shR] [] ⟨443,8,444,70⟩::tailS d895.body:=by kernel_rfl
theorem f895:findE 895 fns=some e895:=by kernel_rfl
theorem m898:lookA 898 mks=some 895:=by kernel_rfl
noncomputable def bads:List (Int × Int):=[(61,7),(-1,7),(5,0),(5,10001)]
noncomputable def shA(p q:Int):List V:=[.dct [],.none,.int 92,.int p,.int q]
noncomputable def VSh(p q:Int):Vars:=[("self",.any),("fonts",.dct []),("names",.none),("escape",.int 92),("depth",.int p),("breadth",.int q)]
theorem vars895(p q:Int):varsOf d895 (.any::shA p q) e895.dxs=VSh p q:=by kernel_rfl
theorem len895(p q:Int):Nat.ble ((shA p q).length+1) d895.names.length=true∧Nat.ble e895.dxs.length d895.names.length=true∧Nat.ble d895.names.length ((shA p q).length+1+e895.dxs.length)=true:=⟨by kernel_rfl,by kernel_rfl,by kernel_rfl⟩
theorem sh_c(σ:Gs):bads.map (λx=>ev KN 80 d895.sc (VSh x.1 x.2) true shC σ)=bads.map λx0=>some (.bool true,σ):=by kernel_rfl
theorem sh_g:kindG d895.sc "BadArgument"=true:=by kernel_rfl
section
variable {X:Cx} {A:Around} {n:Nat} {outer:List Env} {base g₀:Heap} {s:Shared} {f:FH} {σ:Gs} {Q:Value->Shared->Prop} {E:Value->Shared->Prop}
theorem t0z(hK:IsX X)(hX:X.n=0)(hA:Room X A (n+12))(hfr:A.frames=some outer)(S:St X f σ s.heap)(hb:base.StaysIn s.heap)(hU:g₀.UpToSlots s.heap)(hF:FrL X base s.heap outer){x:Int × Int}(hx:x∈bads){vs:List Value}(hv:VRs X f vs (shA x.1 x.2))
  (hE:∀e h' t',Fly base g₀ outer e h'->E (.ref e) {s with heap:=h',toks:=t'}):wpAny X.M A (call (.ref 898) vs) Q E s:=by
 have ng:∀b,¬X.G b:=by
  rintro b ⟨j,hj,_⟩
  rw[hX] at hj;exact Nat.not_lt_zero _ hj
 obtain⟨hm,_⟩:=a0q f895
 obtain⟨hFn,hs,hd⟩:=(a0y hK).fn _ hm
 have hM:=(a0y hK).made _ (b0h m898)
 refine wpAny_call ?_
 obtain⟨h,gs,dr,t,os⟩:=s
 dsimp only at S hb hU hF hE ⊢
 refine make_core (makes_of S.kin hM.makes) (looks_findIn S.kin hM.init) (λself=>bind_fn S.kin self hM.fn) (.inl rfl) ?_
 have S1:St X f σ (h.push emptyDict):=S.push
 have S2:St X f σ ((h.push emptyDict).push (instObj 898 h.objs.size)):=S1.push
 have K2:Kp X f h f ((h.push emptyDict).push (instObj 898 h.objs.size)):=(Kp.push _).trans (Kp.push _)
 have hdv:=hd f S.base
 have l1:=hv.length
 have l2:=hdv.length
 have ln:=len895 x.1 x.2
 have hdep:(A.under (.builtin "type.__call__" ⟨.ref 898::vs,[]⟩)).depth=A.depth+1:=rfl
 refine d0w (s:=⟨(h.push emptyDict).push (instObj 898 h.objs.size),gs,dr,t,os⟩) (B:=⟨f,h,[],none⟩) hFn hs S2 K2 rfl (statics S) (vs:=.ref (h.objs.size+1)::vs) (xs:=.any::shA x.1 x.2) (.cons (.any _) hv) hdv
  (by rw[List.length_cons,l1];exact Nat.le_of_ble_eq_true ln.1) (by rw[l2];exact Nat.le_of_ble_eq_true ln.2.1) (by rw[List.length_cons,l1,l2];exact Nat.le_of_ble_eq_true ln.2.2) (by rw[hdep];have:=hA.2.1;show A.depth+1<1000;lia)
  (ow:=none) (λenv h' m cm x0 x0 x0 x o e=>by cases e) (λv e=>by cases e) λenv h' t' m cm hsc hfrm C' R S'=> ?_
 have hr:Room X ((A.under (.builtin "type.__call__" ⟨.ref 898::vs,[]⟩)).deeper env) (n+10):=by
  obtain⟨a,b,c⟩:=hA
  refine⟨a,?_,?_⟩
  ·show A.depth+1+1+2 * (n+10)<900;lia
  ·show A.units+_+3+16 * (n+10)+200<cLine
   have:(Code.builtin "type.__call__" ⟨.ref 898::vs,[]⟩).cUnits≤13:=Nat.le_of_ble_eq_true (by kernel_rfl)
   lia
 have hsc:env.scope=d895.sc:=hsc
 replace R:Rel X env ⟨f,h,[],none⟩ f h' (VSh x.1 x.2) none m cm:=by rw[←vars895];exact R
 show wpAny X.M _ (execs d895.body env) _ _ _
 rw[body895]
 have EK:KxOK X (n+10) KN:=b0z (m:=n+7) (a0y hK) 3 d0k
 have hcond:ev KN 80 d895.sc (VSh x.1 x.2) true shC σ=some (.bool true,σ):=List.map_inj_left.mp (sh_c σ) x hx
 refine wpAny_execs_cons (wpAny_If ((b0q EK hr 80 env _ (VSh x.1 x.2) none m cm C').2 shC σ _ σ f ⟨h',gs,dr,t',os⟩ (by rw[hsc];exact hcond) R S' _ _ λc f1 h1 t1 K1 S3 r1=> ?_))
 obtain rfl:true=c:=by cases r1;rfl
 have R1:=R.kp' K1
 refine wpAny_execs_cons (v0a (s:=⟨h1,gs,dr,t1,os⟩) (n:=n) hK.k ⟨hr.1,by have:=hr.2.1;lia,by have:=hr.2.2;lia⟩ (hr.1 hK.lp) C' S3 (by rw[hsc];exact sh_g) λe f4 h4 t4 t d K4 S4 new he=> ?_)
 have R4:=R1.kp' K4
 have hbh:base.StaysIn h4:=λb o q=>R4.kp.keep _ _ (hb _ _ q) (ng b)
 refine k0j (A:=A.under (.builtin "type.__call__" ⟨.ref 898::vs,[]⟩)) (outer:=outer) hfr (FrL.push ((hF.kp R4.kp)) C' R4 hfrm hb) he hbh ?_ (hU.trans (Heap.UpToSlots.of_keeps λb o q=>R4.kp.keep _ _ q (ng b))) λh5 fl=> ?_
 ·cases q:base.get? e with
  |none=>rfl
  |some o=>have:=R1.kp.keep _ _ (hb _ _ q) (ng e);dsimp only at new;rw[new] at this;cases this
 ·exact hE e h5 t4 fl
end
noncomputable def bdA(p q:Int):List V:=[.any,.dct [],.int p,.int q]
noncomputable def VBd(p q:Int):Vars:=[("box",.any),("fonts",.dct []),("depth",.int p),("breadth",.int q),("names",.none),("escape",.int 92)]
theorem varsBd(p q:Int):varsOf d1053 (bdA p q) e1053.dxs=VBd p q:=by kernel_rfl
theorem lenBd(p q:Int):Nat.ble (bdA p q).length e1053.D.names.length=true∧Nat.ble e1053.dxs.length e1053.D.names.length=true∧Nat.ble e1053.D.names.length ((bdA p q).length+e1053.dxs.length)=true:=⟨by kernel_rfl,by kernel_rfl,by kernel_rfl⟩
theorem bd_k(p q:Int):look "fonts" (VBd p q)=some (.dct [])∧look "names" (VBd p q)=some .none∧look "escape" (VBd p q)=some (.int 92)∧look "depth" (VBd p q)=some (.int p)∧look "breadth" (VBd p q)=some (.int q):=⟨by kernel_rfl,by kernel_rfl,by kernel_rfl,by kernel_rfl,by kernel_rfl⟩
section
variable {X:Cx} {A:Around} {n:Nat} {env:Env} {n₀:Bs} {outer:List Env} {base g₀:Heap} {s:Shared} {f:FH} {σ σ₁:Gs} {Q:Value->Shared->Prop} {E:Value->Shared->Prop}
theorem d0u{cpos:Pos}{g:Value}{x:Str}{cp:Pos}{args:List Expr}{xs:List V}(HN:Tr X A (eval (.Name x cp) env) f σ s (.con g) σ)(hp:allPlain args=true)(hw:CW X g)
  (HA:∀f' h' t',Kp X f s.heap f' h'->St X f' σ h'->TrL X A (spliced (treesOf args env)) f' σ {s with heap:=h',toks:=t'} xs σ₁)
  (H:∀vs f' h' t',Kp X f s.heap f' h'->St X f' σ₁ h'->VRs X f' vs xs->wpAny X.M A (call g vs) Q E {s with heap:=h',toks:=t'}):wpAny X.M A (eval (.Call (.Name x cp) args [] cpos) env) Q E s:=by
 refine c0l (HN _ _ λva f1 hp1 t1 K1 S1 r1=> ?_)
 cases r1
 rw[a0k hp]
 refine hw _ _ _ _ _ _ _ (d0c args env) (a0n (λz hz=> ?_) ?_)
 ·obtain⟨e,_,rfl⟩:=List.mem_map.mp hz;rfl
 ·exact HA f1 hp1 t1 K1 S1 _ _ λvs f2 hp2 t2 K2 S2 r2=>⟨S2.kin,H vs f2 hp2 t2 (K1.trans K2) S2 r2⟩
theorem y0k(hK:IsX X)(hX:X.n=0)(hA:Room X A (n+14))(hfr:A.frames=some outer)(S:St X f σ s.heap)(hb:base.StaysIn s.heap)(hU:g₀.UpToSlots s.heap)(hF:FrL X base s.heap outer){x:Int × Int}(hx:x∈Mine.bads){vs:List Value}(hv:VRs X f vs (bdA x.1 x.2))
  (hE:∀e h' t',Fly base g₀ outer e h'->E (.ref e) {s with heap:=h',toks:=t'}):wpAny X.M A (call (.ref 1053) vs) Q E s:=by
 have ng:∀b,¬X.G b:=by
  rintro b ⟨j,hj,_⟩
  rw[hX] at hj;exact Nat.not_lt_zero _ hj
 obtain⟨hm,_⟩:=a0q f1053
 obtain⟨hFn,hs,hd⟩:=(a0y hK).fn _ hm
 have hM:=(a0y hK).made _ (b0h m898)
 have hdv:=hd f S.base
 have l1:=hv.length
 have l2:=hdv.length
 have ln:=lenBd x.1 x.2
 refine wpAny_call ?_
 refine d0w (B:=⟨f,s.heap,[],none⟩) hFn hs S Kp.refl rfl (statics S) hv hdv (by rw[l1];exact Nat.le_of_ble_eq_true ln.1) (by rw[l2];exact Nat.le_of_ble_eq_true ln.2.1) (by rw[l1,l2];exact Nat.le_of_ble_eq_true ln.2.2) hA.rec (ow:=none)
  (λenv h m cm x0 x0 x0 x o e=>by cases e) (λv e=>by cases e) λenv h t m cm hsc hfrm C R S0=> ?_
 have hA':Room X (A.deeper env) (n+13):=hA.deeper env
 have hsc:env.scope=d1053.sc:=hsc
 have EK:KxOK X (n+13) KP:=e0s hK
 replace R:Rel X env ⟨f,s.heap,[],none⟩ f h (VBd x.1 x.2) none m cm:=by rw[←varsBd];exact R
 show wpAny X.M _ (execs d1053.body env) _ _ _
 rw[body1053]
 have gl:=bx_g
 have kk:=bd_k x.1 x.2
 refine wpAny_execs_cons (wpAny_Assign_Name (d0u (s:={s with heap:=h,toks:=t}) (σ₁:=σ) (xs:=shA x.1 x.2) (b0j (s:={s with heap:=h,toks:=t}) EK.toEcOK C S0 (by rw[hsc];exact gl.1) gl.2.1 rfl) rfl (e0u hM.keep) (λf3 h3 t3 K3 S3=> ?_) λws f1 h1 t1 K1 S1 hw=> ?_) ((b0n _ _ _ env).trans (by rw[hsc];exact a0z bx_a.2.1)))
 ·have R3:=R.kp' K3
  refine a0b (a0d C R3 S3 rfl kk.1) λf4 h4 t4 K4 S4=> ?_
  refine a0b (a0d C (R3.kp' K4) S4 rfl kk.2.1) λf5 h5 t5 K5 S5=> ?_
  refine a0b (a0d C ((R3.kp' K4).kp' K5) S5 rfl kk.2.2.1) λf6 h6 t6 K6 S6=> ?_
  refine a0b (a0d C (((R3.kp' K4).kp' K5).kp' K6) S6 rfl kk.2.2.2.1) λf7 h7 t7 K7 S7=> ?_
  exact a0b (a0d C ((((R3.kp' K4).kp' K5).kp' K6).kp' K7) S7 rfl kk.2.2.2.2) λf8 h8 t8 K8 S8=>b0f S8
 ·have R1:=R.kp' K1
  have kpAll:Kp X f s.heap f1 h1:=R1.kp
  refine t0z (s:={s with heap:=h1,toks:=t1}) (base:=base) (g₀:=g₀) (n:=n+1) (outer:=env::outer) hK hX hA' (Around.frames_deeper hfr) S1 (λb o q=>kpAll.keep _ _ (hb _ _ q) (ng b)) (hU.trans (Heap.UpToSlots.of_keeps λb o q=>kpAll.keep _ _ q (ng b))) (FrL.push (hF.kp kpAll) C R1 hfrm hb) hx hw λe h2 t2 fl=> ?_
  exact m0t (s:={s with heap:=h2,toks:=t2}) (A:=A) hfr hfrm fl λh5 fl5=>hE e h5 t2 fl5
end
end
section
open PySem PySem.Spec PySem.Calls PyProof.Rows PySem.W PySem.SeqAt
theorem of_rc{prog:Program}{w:World}{A:Around}{E:Value->Shared->Prop}{s:Shared}{Q:Value->Shared->Prop}{a b:Value}{k:Bool}(h:RcAt A s a b k)(hq:Q (.bool k) s):wpAny (model prog w) A (compareOp .Eq a b) Q E s:=h prog w E Q hq
theorem r0w{prog:Program}{w:World}{A:Around}{E:Value->Shared->Prop}{s:Shared}{Q:Value->Shared->Prop}{a b:Value}{k:Bool}(h:RcNeAt A s a b k)(hq:Q (.bool k) s):wpAny (model prog w) A (compareOp .NotEq a b) Q E s:=h prog w E Q hq
noncomputable def EqX(x:V)(k:Nat):Prop:=∀(X:Cx)(f:FH)(s:Shared)(A:Around)(v w:Value),f.In s.heap->VR X f v x->VR X f w x->A.units+k<cLine->EqAt A s v w true
noncomputable def EqAll(k:Nat):List V->Prop
 |[]=>True
 |x::l=>EqX x k∧EqAll k l
theorem EqX.le{x:V}{k j:Nat}(h:EqX x k)(hk:k≤j):EqX x j:=λX f s A v w hi a b u=>h X f s A v w hi a b (by lia)
theorem EqX.int(i:Int)(k:Nat):EqX (.int i) k:=λX f s A v w hi a b u=>by
 cases a using VR.eInt with|int t=>
 cases b using VR.eInt with|int t'=>
 have:=EqAt.int_int (A:=A) (s:=s) i t i t'
 rwa [beq_self_eq_true] at this
theorem EqX.num(i:Int)(k:Nat):EqX (.num i) k:=λX f s A v w hi a b u=>by
 cases a using VR.eNum with|num t=>
 cases b using VR.eNum with|num t'=>
 have:=EqAt.int_int (A:=A) (s:=s) i t i t'
 rwa [beq_self_eq_true] at this
theorem EqX.dimn(i:Int)(k:Nat):EqX (.dimn i) k:=λX f s A v w hi a b u=>by
 cases a using VR.eDimn with|dimn t=>
 cases b using VR.eDimn with|dimn t'=>
 have:=EqAt.int_int (A:=A) (s:=s) (32768 * i) t (32768 * i) t'
 rwa [beq_self_eq_true] at this
theorem EqX.oct(i:Nat)(k:Nat):EqX (.oct i) k:=λX f s A v w hi a b u=>by
 cases a using VR.eOct with|oct t=>
 cases b using VR.eOct with|oct t'=>
 have:=EqAt.int_int (A:=A) (s:=s) (Int.ofNat i) t (Int.ofNat i) t'
 rwa [beq_self_eq_true] at this
theorem EqX.str(x:Wd)(k:Nat):EqX (.str x) k:=λX f s A v w hi a b u=>by
 cases a using VR.eStr with|str t=>
 cases b using VR.eStr with|str t'=>
 have:=EqAt.str_str (A:=A) (s:=s) (wden x) t (wden x) t'
 rwa [beq_self_eq_true] at this
theorem k0x{k:Nat}{x:V}:∀{l:List V}{j:Nat},EqAll k l->l[j]? =some x->EqX x k
 |[],_,_,e=>absurd e.symm (Option.some_ne_none x)
 |_::_,0,h,e=>Option.some.inj e▸h.1
 |_::_,_+1,h,e=>k0x h.2 e
theorem w0p{X:Cx}{f:FH}{vs ws:List Value}{l:List V}(a:VRs X f vs l)(b:VRs X f ws l){k:Nat}(e:EqAll k l)(j:Nat)(h1:j<vs.length)(h2:j<ws.length):∃x,EqX x k∧VR X f vs[j] x∧VR X f ws[j] x:=by
 have q:=List.getElem?_eq_getElem (a.length▸h1)
 obtain⟨v,e1,g1⟩:=a.get q
 obtain⟨w,e2,g2⟩:=b.get q
 exact⟨_,k0x e q,(List.getElem?_eq_some_iff.mp e1).2▸g1,(List.getElem?_eq_some_iff.mp e2).2▸g2⟩
theorem l0m(n:Nat):(List.range n).all (λx0=>true)=true:=by simp
section
variable {X:Cx} {f:FH} {s:Shared} {A:Around} {l:List V} {k n:Nat} {a b:Addr} {vs ws:List Value} {σ:Gs}
theorem x0a(hi:f.In s.heap)(ha:f a=some (tupOf vs.toArray 0))(hb:f b=some (tupOf ws.toArray 0))(va:VRs X f vs l)(vb:VRs X f ws l)(he:EqAll k l)(hu:A.units+(k+1)<cLine):
  RcAt A s (.ref a) (.ref b) true∧RcNeAt A s (.ref a) (.ref b) false:=by
 have la:s.heap.IsTuple a vs.toArray:=⟨_,hi _ _ ha,rfl,0,rfl⟩
 have lb:s.heap.IsTuple b ws.toArray:=⟨_,hi _ _ hb,rfl,0,rfl⟩
 have hsz:vs.toArray.size=ws.toArray.size:=by rw[List.size_toArray,List.size_toArray,va.length,vb.length]
 have el:∀j (h1:j<vs.toArray.size)(h2:j<ws.toArray.size),EqAt A.in1 s vs.toArray[j] ws.toArray[j] ((λx0=>true) j):=λj h1 h2=>by
  obtain⟨x,e,g1,g2⟩:=w0p va vb he j (by simpa using h1) (by simpa using h2)
  exact e X f s A.in1 _ _ hi g1 g2 (by show A.units+1+k<cLine;lia)
 have c:=RcAt.tuples (e:=λx0=>true) la lb (by lia:A.units<cLine) el
 have c2:=RcNeAt.tuples (e:=λx0=>true) la lb (by lia:A.units<cLine) el
 rw[l0m,hsz,beq_self_eq_true,Bool.and_true] at c c2
 exact⟨c,c2⟩
theorem w0k{m1 m2:Nat}(hi:f.In s.heap)(ha:f a=some (listOf vs.toArray m1))(hb:f b=some (listOf ws.toArray m2))(va:VRs X f vs l)(vb:VRs X f ws l)(he:EqAll k l)(hu:A.units+(k+1)<cLine):
  RcAt A s (.ref a) (.ref b) true∧RcNeAt A s (.ref a) (.ref b) false:=by
 have la:s.heap.IsList a vs.toArray:=⟨_,hi _ _ ha,rfl,m1,rfl⟩
 have lb:s.heap.IsList b ws.toArray:=⟨_,hi _ _ hb,rfl,m2,rfl⟩
 have hsz:vs.toArray.size=ws.toArray.size:=by rw[List.size_toArray,List.size_toArray,va.length,vb.length]
 have el:∀j (h1:j<vs.toArray.size)(h2:j<ws.toArray.size),EqAt A.in1 s vs.toArray[j] ws.toArray[j] ((λx0=>true) j):=λj h1 h2=>by
  obtain⟨x,e,g1,g2⟩:=w0p va vb he j (by simpa using h1) (by simpa using h2)
  exact e X f s A.in1 _ _ hi g1 g2 (by show A.units+1+k<cLine;lia)
 have c:=RcAt.lists (e:=λx0=>true) la lb hsz (by lia:A.units<cLine) el
 have c2:=RcNeAt.lists (e:=λx0=>true) la lb hsz (by lia:A.units<cLine) el
 rw[l0m] at c c2
 exact⟨c,c2⟩
end
set_option tactic.hygienic true in
theorem EqX.tup{l:List V}{k:Nat}(h:EqAll k l):EqX (.tup l) (k+1):=λX f s A v w hi a b u=>by
 cases a using VR.eTup with|tup a1 a2=>
 cases b using VR.eTup with|tup b1 b2=>
 rename_i a vs b ws
 by_cases q:a=b
 ·subst q;exact EqAt.same _
 ·exact EqAt.of_refs q (x0a hi a1 b1 a2 b2 h u).1
theorem EqX.abs{d:Dom}{k:Nat}(h:EqX (den d) k):EqX (.abs d) k:=λX f s A v w hi a b u=>by
 cases a using VR.eAbs with|abs _ a=>
 cases b using VR.eAbs with|abs _ b=>
 exact h X f s A v w hi a b u
theorem i0c{α:Type}{g:α->V}{k:Nat}:∀{l:List α},(∀x∈l,EqX (g x) k)->EqAll k (l.map g)
 |[],_=>trivial
 |x::r,h=>⟨h x (.head _),i0c λy hy=>h y (.tail _ hy)⟩
theorem EqX.gparts(g:Glu)(k:Nat):EqX (.abs (.gparts g)) (k+1):=EqX.abs (EqX.tup ⟨.dimn _ _,.int _ _,.int _ _,.int _ _,.int _ _,trivial⟩)
theorem EqX.tok(n:Nat)(k:Nat):EqX (tokV n) (k+2):=EqX.tup ⟨EqX.tup ⟨.int _ _,.int _ _,trivial⟩,EqX.tup ⟨.int _ _,.int _ _,trivial⟩,EqX.tup ⟨.int _ _,.int _ _,trivial⟩,EqX.tup ⟨.int _ _,.int _ _,trivial⟩,trivial⟩
theorem EqX.bitN(n k:Nat):EqX (bitN n) k:=by cases n<;>exact .int _ _
theorem EqX.ruleT(n k:Nat):EqX (ruleT n) (k+1):=by
 cases n with
 |zero=>exact EqX.tup trivial
 |succ n=>cases n<;>exact EqX.tup ⟨.int _ _,trivial⟩
theorem EqX.four(o:Nat)(x:Int)(k:Nat):EqX (.tup (four o x)) (k+1):=by
 unfold Mine.four
 split<;>exact EqX.tup ⟨.int _ _,.int _ _,.int _ _,.int _ _,trivial⟩
theorem u0c:∀(k:Nat)(nd:Nd),WfN k nd->∃l,descV nd= .tup l∧EqAll (2 * k+3) l:=by
 intro k
 induction k with
 |zero=>
  intro nd w
  have lf:=(show leafOk nd from w)
  cases nd<;>first
   |exact⟨_,rfl,.int _ _,.int _ _,.int _ _,trivial⟩
   |exact⟨_,rfl,.int _ _,.int _ _,.int _ _,.tup ⟨.int _ _,.int _ _,trivial⟩,.bitN _ _,.bitN _ _,trivial⟩
   |exact⟨_,rfl,.int _ _,.tok _ _,trivial⟩
   |exact⟨_,rfl,.int _ _,.int _ _,.tup ⟨.int _ _,.int _ _,trivial⟩,trivial⟩
   |exact⟨_,rfl,.int _ _,.int _ _,.int _ _,.tok _ _,trivial⟩
   |exact⟨_,rfl,.int _ _,.int _ _,.int _ _,.tup ⟨.int _ _,.int _ _,.int _ _,trivial⟩,trivial⟩
   |exact⟨_,rfl,.int _ _,.gparts _ _,.int _ _,.tup trivial,trivial⟩
   |exact⟨_,rfl,.int _ _,.ruleT _ _,.ruleT _ _,.ruleT _ _,trivial⟩
   |exact⟨_,rfl,.int _ _,.dimn _ _,.int _ _,trivial⟩
   |exact⟨_,rfl,.int _ _,.num _ _,trivial⟩
   |exact⟨_,rfl,.int _ _,.bitN _ _,.int _ _,trivial⟩
   |exact absurd lf id
 |succ k ih=>
  intro nd w
  have one:∀x,WfN k x->EqX (.abs (.desc x)) (2 * k+4):=λx hx=>by
   obtain⟨l,e,h⟩:=ih x hx
   exact EqX.abs (d:=.desc x) (by show EqX (descV x) _;rw[e];exact EqX.tup h)
  have many:∀l:List Nd,(∀x∈l,WfN k x)->EqX (.abs (.descs l)) (2 * (k+1)+3):=λl hl=>EqX.abs (d:=.descs l) (EqX.tup (i0c λx hx=>one x (hl x hx)))
  cases nd with
  |box kk sh sg o up a b c l=>exact⟨_,rfl,.int _ _,.dimn _ _,.dimn _ _,.dimn _ _,.int _ _,.int _ _,.int _ _,.tup ⟨.int _ _,.int _ _,trivial⟩,many _ w.2.2,trivial⟩
  |cell sp m o a b c l=>exact⟨_,rfl,.int _ _,.dimn _ _,.dimn _ _,.dimn _ _,.int _ _,.int _ _,.int _ _,.four _ _ _,.four _ _ _,many _ w.2.2,trivial⟩
  |lead s g l=>exact⟨_,rfl,.int _ _,.gparts _ _,.int _ _,(one l w.2.2.2).le (by lia),trivial⟩
  |disc a b c=>exact⟨_,rfl,.int _ _,many _ λx hx=>b0s (c0s (w.2.1 x hx)),many _ λx hx=>b0s (c0s (w.2.2.1 x hx)),many _ λx hx=>b0s (c0s (w.2.2.2 x hx)),trivial⟩
  |adj l=>exact⟨_,rfl,.int _ _,many _ w.2,trivial⟩
  |ins num size cost g l=>exact⟨_,rfl,.int _ _,.oct _ _,.dimn _ _,.int _ _,.gparts _ _,.num _ _,many _ w.2.2,trivial⟩
  |_=>
   first
   |exact⟨_,rfl,.int _ _,.int _ _,.int _ _,trivial⟩
   |exact⟨_,rfl,.int _ _,.int _ _,.int _ _,.tup ⟨.int _ _,.int _ _,trivial⟩,.bitN _ _,.bitN _ _,trivial⟩
   |exact⟨_,rfl,.int _ _,.tok _ _,trivial⟩
   |exact⟨_,rfl,.int _ _,.int _ _,.tup ⟨.int _ _,.int _ _,trivial⟩,trivial⟩
   |exact⟨_,rfl,.int _ _,.int _ _,.int _ _,.tok _ _,trivial⟩
   |exact⟨_,rfl,.int _ _,.int _ _,.int _ _,.tup ⟨.int _ _,.int _ _,.int _ _,trivial⟩,trivial⟩
   |exact⟨_,rfl,.int _ _,.gparts _ _,.int _ _,.tup trivial,trivial⟩
   |exact⟨_,rfl,.int _ _,.ruleT _ _,.ruleT _ _,.ruleT _ _,trivial⟩
   |exact⟨_,rfl,.int _ _,.dimn _ _,.int _ _,trivial⟩
   |exact⟨_,rfl,.int _ _,.num _ _,trivial⟩
   |exact⟨_,rfl,.int _ _,.bitN _ _,.int _ _,trivial⟩
section
variable {X:Cx} {f:FH} {s:Shared} {A:Around} {σ:Gs} {n:Nat} {v w:Value}
theorem room64(hA:Room X A n){k:Nat}(hk:k≤100):A.units+k<cLine:=by have:=hA.2.2;lia
theorem a1n{k:Nat}{nd:Nd}(hw:WfN k nd)(hk:k≤20)(hA:Room X A n)(S:St X f σ s.heap)(hv:VR X f v (.abs (.desc nd)))(hw':VR X f w (.abs (.desc nd))):Tr X A (compareOp .NotEq v w) f σ s (.bool false) σ:=by
 intro Q E hQ
 obtain⟨l,e,h⟩:=u0c k nd hw
 cases hv using VR.eAbs with|abs _ hv=>
 cases hw' using VR.eAbs with|abs _ hw'=>
 have e:den (.desc nd)= .tup l:=e
 rw[e] at hv hw'
 cases hv using VR.eTup with|tup a1 a2=>
 cases hw' using VR.eTup with|tup b1 b2=>
 exact r0w (x0a S.isIn a1 b1 a2 b2 h (room64 hA (by lia))).2 (here' S hQ (.bool _))
theorem p0d:∀(l:List Str),EqAll 0 (rowsL l)
 |[]=>trivial
 |x::r=>⟨.str _ _,p0d r⟩
theorem y0w{l:List Str}{i j:Nat}(hA:Room X A n)(S:St X f σ s.heap)(hv:VR X f v (.lst (rowsL l) i))(hw:VR X f w (.lst (rowsL l) j)):Tr X A (compareOp .NotEq v w) f σ s (.bool false) σ:=by
 intro Q E hQ
 cases hv using VR.eLst with|lst a1 a2=>
 cases hw using VR.eLst with|lst b1 b2=>
 exact r0w (w0k S.isIn a1 b1 a2 b2 (p0d l) (room64 hA (by decide))).2 (here' S hQ (.bool _))
theorem b1x{x:Wd}{i j:Nat}(hA:Room X A n)(S:St X f σ s.heap)(hv:VR X f v (.lst [.str x] i))(hw:VR X f w (.lst [.str x] j)):Tr X A (compareOp .Eq v w) f σ s (.bool true) σ:=by
 intro Q E hQ
 cases hv using VR.eLst with|lst a1 a2=>
 cases hw using VR.eLst with|lst b1 b2=>
 exact of_rc (w0k (k:=0) S.isIn a1 b1 a2 b2 ⟨.str _ _,trivial⟩ (room64 hA (by decide))).1 (here' S hQ (.bool _))
end
end
section
open PySem PySem.Spec PySem.Calls PyProof.Rows PySem.W
section
variable {X:Cx} {A:Around} {n:Nat} {env:Env} {B:Bs} {s:Shared} {f:FH} {σ σ₁ σ₂:Gs} {vars:Vars} {ow:Option (Str × Ow)} {m cm:Str->Option Value} {h h':Heap}
theorem z0p{l r:Expr}{op:CmpOp}{pos:Pos}{a b:V}{z:Bool}(hm:lastMarks [op] [r]=false)(HL:Tr X A (eval l env) f σ s a σ₁)(HR:∀f' h' t',Kp X f s.heap f' h'->St X f' σ₁ h'->Tr X A (eval r env) f' σ₁ {s with heap:=h',toks:=t'} b σ₂)
  (HC:∀f s v w,St X f σ₂ s.heap->VR X f v a->VR X f w b->Tr X A (compareOp op v w) f σ₂ s (.bool z) σ₂):Tr X A (eval (.Compare l [op] [r] pos) env) f σ s (.bool z) σ₂:=by
 intro Q E hQ
 show wpAny X.M A (do compareChain pos (←eval l env) [op] (markedEach [op] [r] (evalEach [r] env))) Q E s
 rw[markedEach_of_false _ _ _ hm]
 refine wpAny_bind (HL _ _ λva f1 h1 t1 K1 S1 r1=> ?_)
 refine chain_last (HR f1 h1 t1 K1 S1 _ _ λvb f2 h2 t2 K2 S2 r2=> ?_)
 exact HC f2 {s with heap:=h2,toks:=t2} va vb S2 (r1.mono K2.le) r2 _ _ λvc f3 h3 t3 K3 S3 r3=>hQ vc f3 h3 t3 ((K1.trans K2).trans K3) S3 r3
theorem n0g{l r:Expr}{op:CmpOp}{pos:Pos}{a b:V}{z:Bool}(hm:lastMarks [op] [r]=false)(HL:Tr X A (eval l env) f σ s a σ₁)(HR:∀f' h' t',Kp X f s.heap f' h'->St X f' σ₁ h'->Tr X A (eval r env) f' σ₁ {s with heap:=h',toks:=t'} b σ₂)
  (HC:∀f s v w,St X f σ₂ s.heap->VR X f v a->VR X f w b->Tr X A (compareOp op v w) f σ₂ s (.bool z) σ₂):TrB X A (isTrue (.Compare l [op] [r] pos) env (eval (.Compare l [op] [r] pos) env)) f σ s z σ₂:=by
 intro Q E hQ
 show wpAny X.M A (do testChain pos (←eval l env) [op] (markedEach [op] [r] (evalEach [r] env))) Q E s
 rw[markedEach_of_false _ _ _ hm]
 refine wpAny_bind (HL _ _ λva f1 h1 t1 K1 S1 r1=> ?_)
 refine test_last (HR f1 h1 t1 K1 S1 _ _ λvb f2 h2 t2 K2 S2 r2=> ?_)
 refine HC f2 {s with heap:=h2,toks:=t2} va vb S2 (r1.mono K2.le) r2 _ _ λvc f3 h3 t3 K3 S3 r3=> ?_
 cases r3
 exact wpAny_truthy_bool (hQ _ f3 h3 t3 ((K1.trans K2).trans K3) S3 rfl)
theorem d1k{e1 e2:Expr}{pos:Pos}(H1:TrB X A (isTrue e1 env (eval e1 env)) f σ s false σ₁)(H2:∀f' h' t',Kp X f s.heap f' h'->St X f' σ₁ h'->TrB X A (isTrue e2 env (eval e2 env)) f' σ₁ {s with heap:=h',toks:=t'} false σ₂):
  TrG X A (isTrue (.BoolOp .Or [e1,e2] pos) env (eval (.BoolOp .Or [e1,e2] pos) env)) f σ s (λx0 c=>V.bool false= .bool c) σ₂:=by
 intro Q E hQ
 show wpAny X.M A (do
  match BoolOp.Or,←isTrue e1 env (eval e1 env) with
  | .And,false=>pure false
  | .Or,true=>pure true
  |_,_=>do
   match BoolOp.Or,←isTrue e2 env (eval e2 env) with
   | .And,false=>pure false
   | .Or,true=>pure true
   |_,_=>allTrue .Or [] env) Q E s
 refine wpAny_bind (H1 _ _ λva f1 h1 t1 K1 S1 r1=> ?_)
 subst r1
 refine wpAny_bind (H2 f1 h1 t1 K1 S1 _ _ λvb f2 h2 t2 K2 S2 r2=> ?_)
 subst r2
 exact wpAny_pure (hQ _ f2 h2 t2 (K1.trans K2) S2 rfl)
noncomputable def Cx.zero(X:Cx)(l:Bool):Cx:=⟨X.P,X.w,X.K,X.g,0,l⟩
theorem d0p{l:Bool}{b:Addr}:¬(X.zero l).G b:=by
 rintro⟨j,hj,_⟩
 exact Nat.not_lt_zero _ hj
noncomputable def gs9:Gs:=⟨[],(0,0),false,9⟩
theorem St.zero(S:St X f σ h)(l:Bool):St (X.zero l) f gs9 h:=
 ⟨S.base,S.isIn,⟨⟨(0,0),0,0,λq=>absurd q (Nat.lt_irrefl _),.nil _⟩,λk hk=>absurd hk (Nat.not_lt_zero _),λk hk=>absurd hk (Nat.not_lt_zero _),by decide,λD T hm=>by simp[namesOf,gs9] at hm⟩,λa ha=>absurd ha d0p,S.nolim⟩
theorem Rel.zero(R:Rel X env B f h vars ow m cm)(hg:∀b,X.G b->B.h₀.get? b=none)(l:Bool):Rel (X.zero l) env ⟨B.f₀,B.h₀,[],none⟩ f h [] none m cm:=by
 have fr:∀{b},Fresh X B f b->Fresh (X.zero l) ⟨B.f₀,B.h₀,[],none⟩ f b:=λF=>⟨F.at0,d0p,F.off,λp hp=>nomatch hp⟩
 exact⟨⟨λb o e x0=>R.kp.keep b o e (λg=>by rw[hg b g] at e;cases e),R.kp.le,λb o e=>(R.kp.new b o e).imp id λz=>⟨z.1,d0p⟩⟩,λv e=>(nomatch e),λp hp=>(nomatch hp),
  ⟨R.fm.ns,fr R.fm.lo,R.fm.cell,R.fm.apart,λx c e=>let⟨a,b,d⟩:=R.fm.above x c e;⟨fr a,b,d⟩⟩,λx y e=>(nomatch e),λx o e=>(nomatch e)⟩
theorem Cz.zero(C:Cz X env B)(l:Bool):Cz (X.zero l) env ⟨B.f₀,B.h₀,[],none⟩:=⟨C.kind,C.glob,C.blt,C.stat,C.hcl⟩
theorem turned{v0:Vars}(S:St X f σ h)(C:Cz X env B)(R:Rel X env B f h v0 none m cm)(hp:B.pins=[])(k:∀b o,b≠env.locals->h.get? b=some o->h'.get? b=some o)(u:h.UpToSlots h'):St X f σ h'∧Rel X env B f h' v0 none m cm:=by
 obtain⟨S',K'⟩:=S.but R.kp C.stat R.fm.lo.at0 R.fm.lo.ng R.fm.lo.off (h':=h') k
 refine⟨S',K',R.me,(λp q=>by rw[hp] at q;cases q),⟨u.ns R.fm.ns,R.fm.lo,λx c e=> ?_,R.fm.apart,λx c e=> ?_⟩,R.vars,λx o e=>(nomatch e)⟩
 ·obtain⟨o,q,r⟩:=R.fm.cell x c e
  exact⟨o,k _ _ (R.fm.above x c (PySem.mem_of_lookup e)).2.1 q,r⟩
 ·obtain⟨a,b,o,q⟩:=R.fm.above x c e
  exact⟨a,b,o,k _ _ b q⟩
end
noncomputable def ltArgs:List Expr:=[(Expr.Name ("whole_one") ⟨870,18,870,27⟩).Subscript (Expr.Constant (Const.int 0) 0 ⟨870,28,870,29⟩) ⟨870,18,870,30⟩,
 Expr.Dict [] [] ⟨870,32,870,34⟩,
 (Expr.List [Expr.Constant (Const.int 61) 0 ⟨870,37,870,39⟩,Expr.UnaryOp UnaryOp.USub (Expr.Constant (Const.int 1) 0 ⟨870,42,870,43⟩) ⟨870,41,870,43⟩,Expr.Constant (Const.int 5) 0 ⟨870,45,870,46⟩,Expr.Constant (Const.int 5) 0 ⟨870,48,870,49⟩] ⟨870,36,870,50⟩).Subscript
  ((Expr.Name ("depth") ⟨870,51,870,56⟩).BinOp Operator.Mod (Expr.Constant (Const.int 4) 0 ⟨870,59,870,60⟩) ⟨870,51,870,60⟩) ⟨870,36,870,61⟩,
 (Expr.List [Expr.Constant (Const.int 7) 0 ⟨870,64,870,65⟩,Expr.Constant (Const.int 7) 0 ⟨870,67,870,68⟩,Expr.Constant (Const.int 0) 0 ⟨870,70,870,71⟩,Expr.Constant (Const.int 10001) 0 ⟨870,73,870,78⟩] ⟨870,63,870,79⟩).Subscript
  ((Expr.Name ("depth") ⟨870,80,870,85⟩).BinOp Operator.Mod (Expr.Constant (Const.int 4) 0 ⟨870,88,870,89⟩) ⟨870,80,870,89⟩) ⟨870,63,870,90⟩]
noncomputable def ltCall:Expr:=(Expr.Name ("box_lines") ⟨870,8,870,17⟩).Call ltArgs [] ⟨870,8,870,91⟩
noncomputable def ltS1:Stmt:=.Expr ltCall ⟨870,8,870,91⟩
noncomputable def ltS2:Stmt:=Stmt.Return (some (Expr.Constant (Const.bool false) 0 ⟨871,15,871,20⟩)) ⟨871,8,871,20⟩
noncomputable def ltVArgs:List Expr:=[Expr.Constant Const.none 0 ⟨873,25,873,29⟩,Expr.Dict [] [] ⟨873,31,873,33⟩]
noncomputable def ltVoid:Expr:=(Expr.Name ("box_lines") ⟨873,15,873,24⟩).Call ltVArgs [] ⟨873,15,873,34⟩
noncomputable def ltList:Expr:=Expr.List [Expr.Constant (Const.str ("void")) 0 ⟨873,39,873,45⟩] ⟨873,38,873,46⟩
noncomputable def ltCmp:Expr:=ltVoid.Compare [CmpOp.Eq] [ltList] ⟨873,15,873,46⟩
noncomputable def ltR:Stmt:=.Return (some ltCmp) ⟨873,8,873,46⟩
noncomputable def ltH:ExceptHandler:=.ExceptHandler (some (Expr.Name ("BadArgument") ⟨872,11,872,22⟩)) none [ltR] ⟨872,4,873,46⟩
noncomputable def lawTry:Stmt:=.Try [ltS1,ltS2] [ltH] [] [] ⟨869,4,873,46⟩
noncomputable def badOf:Nat->Int × Int
 |0=>(61,7)
 |1=>(-1,7)
 |2=>(5,0)
 |3=>(5,10001)
 |_=>(-1,7)
theorem o0y:∀d∈depths,badOf d∈Mine.bads:=by decide
noncomputable def any4:V:=.tup [.any,.any,.any,.any]
noncomputable def VTry(d:Nat):Vars:=[("whole_one",any4),("depth",nat d)]
theorem y0s(σ:Gs):depths.map (λd=>evs (ev KP 80 d1342.sc (VTry d) false) ltArgs σ)=depths.map λd=>some (bdA (badOf d).1 (badOf d).2,σ):=by kernel_rfl
theorem lt_g:kindG d1342.sc "box_lines"=true∧look "box_lines" KP.GT=some (.con (.ref 1053))∧kindG d1342.sc "BadArgument"=true:=⟨by kernel_rfl,by kernel_rfl,by kernel_rfl⟩
noncomputable abbrev KF:Kx:=lvl ecF fns mks noOv 80 6
theorem ltf_g:look "box_lines" KF.GT=some (.con (.ref 1053)):=by kernel_rfl
theorem r0h(σ:Gs):KF.C (.ref 1053) [.none,.dct []] σ=some (.lst [.str (wS "void")] 1,σ):=by kernel_rfl
theorem u0q(σ:Gs):evs (ev KF 80 d1342.sc [] false) ltVArgs σ=some ([.none,.dct []],σ):=by kernel_rfl
theorem b1c(σ:Gs):ev KF 80 d1342.sc [] false ltList σ=some (.lst [.str (wS "void")] 1,σ):=by kernel_rfl
theorem VRs.anys{X Y:Cx}{f g:FH}:∀{l:List V}{vs:List Value},VRs X f vs l->VRs Y g vs (l.map λx0=>.any)
 |[],_,h=>by cases h;exact .nil
 |_::_,_,h=>by cases h with|cons _ t=>exact .cons (.any _) t.anys
theorem v0b{X Y:Cx}{f:FH}{v:Value}{nd:Nd}(h:VR X f v (.abs (.part nd))):VR Y f v any4:=by
 cases h using VR.eAbs with
 |abs _ b=>
 have b:VR X f v (.tup [objOf nd,.str (textOf nd),.lst (listsL (listsOf nd)) (listsN (listsOf nd)),replV nd]):=b
 cases b using VR.eTup with
 |tup fa rv=>exact .tup fa rv.anys
section
variable {X:Cx} {A:Around} {n:Nat} {env:Env} {B:Bs} {s:Shared} {f:FH} {σ σ₁ σ₂:Gs} {vars:Vars} {ow:Option (Str × Ow)} {m cm:Str->Option Value} {h h':Heap} {Q:Flow->Shared->Prop} {E:Value->Shared->Prop}
theorem s0o(hK:X.K=frag X.w.params)(hA:Room X A 6)(hsc:env.scope=d1342.sc)(C:Cz X env B)(R:Rel X env B f s.heap [] none m cm)(S:St X f σ s.heap)(hQ:∀f' h' t',Kp X f s.heap f' h'->Q (.ret (.bool true)) {s with heap:=h',toks:=t'}):
  wpAny X.M A (execs [ltR] env) Q E s:=by
 have EK:KxOK X 6 KF:=b0z (m:=0) (p0r hK) 6 d0k
 have HE:=λ(f':FH)(s':Shared)(R':Rel X env B f' s'.heap [] none m cm)(S':St X f' σ s'.heap)=>(b0q EK hA 80 env B [] none m cm C).1
 refine wpAny_execs_cons (wpAny_Return_some (z0p (f:=f) (σ:=σ) (σ₁:=σ) (σ₂:=σ) (a:=.lst [.str (wS "void")] 1) (b:=.lst [.str (wS "void")] 1) (z:=true) rfl ?_ (λf' h' t' K' S'=> ?_) (λf' s' v w S' hv hw=>b1x hA S' hv hw) _ _ λv f' h' t' K' S' r=> ?_))
 ·refine b0p (c:=ltVoid) (σ₁:=σ) hA (b0j EK.toEcOK C S (by rw[hsc];exact lt_g.1) ltf_g rfl) rfl (xs:=[.none,.dct []]) (λf3 h3 t3 K3 S3=> ?_) (EK.C _ _ _ _ _ (r0h σ))
  exact j0p C (HE f3 {s with heap:=h3,toks:=t3} (R.kp' K3) S3) ltVArgs σ _ σ f3 {s with heap:=h3,toks:=t3} (by rw[hsc];exact u0q σ) (R.kp' K3) S3
 ·exact HE f' {s with heap:=h',toks:=t'} (R.kp' K') S' ltList σ _ σ f' _ (by rw[hsc];exact b1c σ) (R.kp' K') S'
 ·cases r
  exact hQ f' h' t' K'
theorem c1g{A0:Around}(hA0:A0.frames=some [])(hK:IsX X)(hA:Room X (A0.deeper env) 40)(hsc:env.scope=d1342.sc)(hfrm:env.frame=some env.locals)(C:Cz X env B)(R:Rel X env B f s.heap vars none m cm)(S:St X f σ s.heap)
  (hg:∀b,X.G b->B.h₀.get? b=none){nd:Nd}{d:Nat}(hd:d∈depths)(hw:look "whole_one" vars=some (.abs (.part nd)))(hdp:look "depth" vars=some (nat d))
  (hQ:∀h' t',(∀b o,B.h₀.get? b=some o->h'.get? b=some o)->Q (.ret (.bool true)) {s with heap:=h',toks:=t'}):wpAny X.M (A0.deeper env) (execs [lawTry] env) Q E s:=by
 have hfr:(A0.deeper env).frames=some [env]:=Around.frames_deeper hA0
 have hKY:IsX (X.zero true):=⟨hK.k,rfl⟩
 have hAY:Room (X.zero true) (A0.deeper env) 40:=⟨λx0=>hA.1 hK.lp,hA.2⟩
 have SY:=S.zero true
 have CY:=C.zero true
 have RY0:=R.zero hg true
 have RY:Rel (X.zero true) env ⟨B.f₀,B.h₀,[],none⟩ f s.heap (VTry d) none m cm:=by
  refine⟨RY0.kp,RY0.me,RY0.pin,RY0.fm,λx y e=>a0m (P:=λp:Str × V=>∃v,valOf env m cm p.1=some v∧VR (X.zero true) f v p.2) ?_ (a0m ?_ a0u) (x,y) (c0u e),RY0.own⟩
  ·exact(R.vars _ _ hw).imp λv q=>⟨q.1,v0b q.2⟩
  ·exact(R.vars _ _ hdp).imp λv q=>⟨q.1,q.2.inv.elim λt e=>e▸.int _ t⟩
 have EK:KxOK (X.zero true) 40 KP:=e0s hKY
 have hf:interactive env=false:=by unfold interactive;rw[C.kind];rfl
 have HE:=(b0q EK hAY 80 env _ (VTry d) none m cm CY).1
 show wpAny (X.zero true).M (A0.deeper env) (execs [lawTry] env) Q E s
 refine wpAny_execs_cons (wpAny_Try_except (wpAny_execs_cons (wpAny_Expr (d0u (σ₁:=gs9) (xs:=bdA (badOf d).1 (badOf d).2) (b0j EK.toEcOK CY SY (by rw[hsc];exact lt_g.1) lt_g.2.1 rfl) rfl (e0u ((a0y hKY).fn _ (a0q f1053).1).1.keep) (λf3 h3 t3 K3 S3=> ?_) λws f1 h1 t1 K1 S1 hws=> ?_) hf (a0r rfl))))
 ·exact j0p CY HE ltArgs gs9 _ gs9 f3 {s with heap:=h3,toks:=t3} (by rw[hsc];exact List.map_inj_left.mp (y0s gs9) d hd) (RY.kp' K3) S3
 have R1:=RY.kp' K1
 have hFr:FrL (X.zero true) (TI.gone h1 [env.locals]) h1 [env]:=λe he=>by
  cases List.mem_singleton.mp he
  obtain⟨o,es,ep,q1,q2,_⟩:=R1.fm.ns
  exact⟨by rw[C.kind];decide,env.locals,o,hfrm,d0p,TI.gone_none (.head _),q1,λvs q=>by rw[q2] at q;cases q⟩
 refine y0k (n:=26) (s:={s with heap:=h1,toks:=t1}) (base:=TI.gone h1 [env.locals]) (g₀:=h1) (outer:=[env]) hKY rfl hAY hfr S1 (λb o q=>(TI.gone_some q).2) (.refl _) hFr (o0y d hd) hws λe h2 t2 fl=> ?_
 obtain⟨⟨t,fl2⟩,u2⟩:=fl
 refine wpAny_looks_onW (s:={s with heap:=h2,toks:=t2}) hfr hfrm fl2 λh3 held u3=> ?_
 refine wpAny_landsW (s:={s with heap:=h3,toks:=t2}) held λh4 fl4 u4=> ?_
 have U4:h1.UpToSlots h4:=(u2.trans u3).trans u4
 have kk:∀{h':Heap},(TI.gone h1 [env.locals]).StaysIn h'->∀b o,b≠env.locals->h1.get? b=some o->h'.get? b=some o:=λk b o ne q=>k b o ((TI.gone_get (by simpa using ne)).trans q)
 have S1':St (X.zero false) f1 gs9 h1:=S1.zero false
 have R1':Rel (X.zero false) env ⟨B.f₀,B.h₀,[],none⟩ f1 h1 [] none m cm:=R1.zero (λb g=>absurd g d0p) false
 have C1':Cz (X.zero false) env ⟨B.f₀,B.h₀,[],none⟩:=CY.zero false
 obtain⟨S4,R4⟩:=turned S1' C1' R1' rfl (kk fl4.1) U4
 obtain⟨k0,k1,k2,k3,k5,e52⟩:=c52 X.w.params
 rw[←hK.k] at e52
 show wpAny (X.zero false).M (A0.deeper env) (handleBy (.ref e) env [ltH]) _ _ _
 refine wpAny_handleBy_cons (codeAny_handlers_test ?_) (by intro q;cases q)
 refine wpAny_Name (d0a (X:=X.zero false) (s:={s with heap:=h4,toks:=t2}) (K:=⟨⟨badT,[],[],[],[],false⟩,λx0 x0 x0=>none⟩) (v0y (X:=X.zero false) hK.k) C1' S4 (by rw[hsc];exact lt_g.2.2) lbad rfl _ _ λva f5 h5 t5 K5 S5 r5=> ?_) rfl
 cases r5
 have keep5:∀b o,h4.get? b=some o->h5.get? b=some o:=λb o q=>K5.keep b o q d0p
 obtain⟨oe,he,hc⟩:=fl4.there
 refine wpAny_excMatches_sub_self (S5.kin _ _ e52) (keep5 _ _ he) hc (by rfl) ?_
 show codeAny _ _ _ _ _
 refine codeAny_handlers_suite ?_
 refine lands_againW (s:={s with heap:=h5,toks:=t5}) (flying_keeps fl4 keep5) λh6 fl6 u6=> ?_
 have U6:h1.UpToSlots h6:=(U4.trans (.of_keeps keep5)).trans u6
 obtain⟨S6,R6⟩:=turned S1' C1' R1' rfl (kk fl6.1) U6
 have hA6:Room (X.zero false) ((A0.deeper env).mark (some (.ref e))) 6:=⟨(λq=>by cases q),(by have:=hA.2.1;show(A0.deeper env).depth+2 * 6<900;lia),by have:=hA.2.2;show(A0.deeper env).units+16 * 6+200<cLine;lia⟩
 refine s0o (s:={s with heap:=h6,toks:=t5}) hK.k hA6 hsc C1' R6 S6 λf7 h7 t7 K7=> ?_
 exact hQ h7 t7 λb o q=>(R6.kp' K7).kp.keep b o q d0p
end
noncomputable def RUN2(ov:Ov)(W:List Str)(sc:Scope):RcS:=ev2 (lvl ecT fns mks ov 80 6) (mkR (lvl ecT fns mks ov 80 5) fns mks 80) W sc 80
theorem p0p{X:Cx}{A:Around}{n:Nat}{ov:Ov}{W:List Str}{env:Env}{B:Bs}(hK:IsX X)(ho:OvOK X n ov)(hA:Room X A (n+6))(C:Cz X env B):SndS X A env B (RUN2 ov W env.scope):=
 w0m (b0z (a0y hK) 6 ho) (c1r (a0y hK) (b0z (a0y hK) 5 ho)) hA C 80
noncomputable def ovL3(k:Nat):Ov:=orOv (ovListC k 3) ovP
noncomputable def boxA(k:Int)(kk sh sg o up:Nat)(a b c:Int)(l:List Nd):Vars:=[("up",nat (upOf up)),("order",nat o),("sign",nat sg),("shift",.int (Int.ofNat sh - 1)),("kind",nat kk),("text",.str (sizesW a b c)),("sizes",.lst [.dimn a,.dimn b,.dimn c] 3),("inner",.abs (.parts l)),
 ("heap",.gl 0),("tools",.abs .tools),("deep",.int k)]
noncomputable def BoxRunA(k:Nat):Prop:=∀(kk sh sg o:Nat)(a b c:Int)(l:List Nd)(r:List Dr)(e:P2)(nb:Bool),(List.range 5).map (λup=>evSs (RUN2 (ovL3 k) ["node"] d1282.sc) (d1282.body.take 3) ⟨varsOf d1282 [.gl 0,.abs .tools,.int (Int.ofNat k)] [],none,⟨.list k 3 l:: .sizes a b c:: .v 2 kk:: .v 4 sh:: .v 3 sg:: .v 4 o:: .v 5 up::r,e,nb,0⟩⟩)=
 mapR (λup=>some (.next,⟨boxA (Int.ofNat k) kk sh sg o up a b c l,none,⟨r,e,orB nb (dnL l),0⟩⟩)) (List.range 5)
theorem o0f:BoxRunA 0:=λkk sh sg o a b c l r e nb=>by kernel_rfl
theorem r0e:BoxRunA 1:=λkk sh sg o a b c l r e nb=>by kernel_rfl
theorem r0y:BoxRunA 2:=λkk sh sg o a b c l r e nb=>by kernel_rfl
noncomputable def rowW(kk:Nat)(a b c:Int):Wd:=wS "\\"++((match kk with|0=>wS "h"|_=>wS "v")++(wS "box"++sizesW a b c))
noncomputable def boxFs(kk sh sg o up:Nat)(a b c:Int)(l:List Nd):List (Str × V):=[("kind",nat (2+kk)),("width",.dimn c),("height",.dimn a),("depth",.dimn b),("items",.abs (.items l)),("shift",.int (32768 * ((sh:Int) - 1))),("sign",nat sg),("order",nat o),("ratio",.tup [nat (upOf up),.int 2])]
noncomputable abbrev R2:RcS:=RUN2 ovP ["node"] d1282.sc
theorem u0h(k:Int)(sh sg o up:Nat)(a b c:Int)(l:List Nd)(σ:Gs):(List.range 2).map (λkk=>evSs R2 ((d1282.body.drop 3).take 3) ⟨boxA k kk sh sg o up a b c l,none,σ⟩)=
 mapR (λkk=>some (.next,⟨("row",.str (rowW kk a b c))::("node",.any)::boxA k kk sh sg o up a b c l,some ("node",.ins 412 (boxFs kk sh sg o up a b c l)),σ⟩)) (List.range 2):=by kernel_rfl
noncomputable def boxC(S:Str)(sg o up:Nat)(sv:Int)(l:List Nd):Vars:=[("row",.str [.h S 100]),("sign",nat sg),("order",nat o),("up",nat (upOf up)),("shift",.int sv),("inner",.abs (.parts l))]
noncomputable def rowC(S:Str)(sg o up:Nat):Vars:=match setW sg o up with
 |[]=>[]
 |w=>[("row",.str ([.h S 100]++w))]
noncomputable def setP:List (Nat × Nat × Nat):=prd (List.range 3) (prd (List.range 4) (List.range 5))
theorem t0f(S:Str)(sv:Int)(l:List Nd)(D:Addr)(fs:List (Str × V))(σ:Gs):setP.map (λp=>evSs R2 ((d1282.body.drop 6).take 1) ⟨boxC S p.1 p.2.1 p.2.2 sv l,some ("node",.ins D fs),σ⟩)=
 mapR (λp=>some (.next,⟨rowC S p.1 p.2.1 p.2.2++boxC S p.1 p.2.1 p.2.2 sv l,some ("node",.ins D fs),σ⟩)) setP:=by kernel_rfl
noncomputable def boxD(T:Str)(sh:Nat)(l:List Nd):Vars:=[("row",.str [.h T 200]),("shift",.int (Int.ofNat sh - 1)),("inner",.abs (.parts l))]
theorem v0l(T:Str)(l:List Nd)(fs:List (Str × V))(σ:Gs):(List.range 4).map (λsh=>evSs R2 (d1282.body.drop 7) ⟨boxD T sh l,some ("node",.ins 412 fs),σ⟩)=
 mapR (λsh=>some (.ret (.tup [.obj 412 fs,.str ([.h T 200]++shiftW sh),.lst [.tup [.str (wS "."),.abs (.parts l)]] 1,.lst [] 0]),⟨("node",.obj 412 fs)::boxD T sh l,none,σ⟩)) (List.range 4):=by kernel_rfl
theorem app4(a b c d e:Wd):a++(b++(c++(d++e)))=(a++(b++(c++d)))++e:=by rw[List.append_assoc,List.append_assoc,List.append_assoc]
theorem e0k(kk sh sg o up:Nat)(a b c:Int)(l:List Nd):textOf (.box kk sh sg o up a b c l)=rowW kk a b c++(setW sg o up++shiftW sh):=by
 cases kk<;>exact app4 ..
theorem s0i(a b c:Int):allB (λkk=>Nat.ble (wlen (rowW kk a b c)) 100) (List.range 2)=true:=by kernel_rfl
theorem t0s:allB (λp:Nat × Nat × Nat=>andB (Nat.ble (wlen (setW p.1 p.2.1 p.2.2)) 100) ((wlit (setW p.1 p.2.1 p.2.2)).isSome)) setP=true:=by kernel_rfl
theorem m0m:allB (λsh=>andB (Nat.ble (wlen (shiftW sh)) 100) ((wlit (shiftW sh)).isSome)) (List.range 4)=true:=by kernel_rfl
theorem f1282:findE 1282 fns=some e1282:=by kernel_rfl
theorem len1282{k:Int}:Nat.ble [V.gl 0,.abs .tools,.int k].length e1282.D.names.length=true∧Nat.ble e1282.dxs.length e1282.D.names.length=true∧Nat.ble e1282.D.names.length ([V.gl 0,.abs .tools,.int k].length+e1282.dxs.length)=true:=⟨by kernel_rfl,by kernel_rfl,by kernel_rfl⟩
section
variable (k:Int) (kk sh sg o up:Nat) (a b c:Int) (l:List Nd) (S:Str) (sv:Int)
noncomputable def boxB:Vars:=("row",.str (rowW kk a b c))::("node",.any)::boxA k kk sh sg o up a b c l
theorem lk1:look "row" (boxB k kk sh sg o up a b c l)=some (.str (rowW kk a b c)):=by kernel_rfl
theorem lk2:look "sign" (boxB k kk sh sg o up a b c l)=some (nat sg):=by kernel_rfl
theorem lk3:look "order" (boxB k kk sh sg o up a b c l)=some (nat o):=by kernel_rfl
theorem lk4:look "up" (boxB k kk sh sg o up a b c l)=some (nat (upOf up)):=by kernel_rfl
theorem lk5:look "shift" (boxB k kk sh sg o up a b c l)=some (.int (Int.ofNat sh - 1)):=by kernel_rfl
theorem lk6:look "inner" (boxB k kk sh sg o up a b c l)=some (.abs (.parts l)):=by kernel_rfl
theorem lk7:look "shift" (boxC S sg o up sv l)=some (.int sv):=by kernel_rfl
theorem lk8:look "inner" (boxC S sg o up sv l)=some (.abs (.parts l)):=by kernel_rfl
theorem lk9:look "row" (boxC S sg o up sv l)=some (.str [.h S 100]):=by kernel_rfl
theorem lk10(w:V)(vs:Vars):look "row" (("row",w)::vs)=some w:=by kernel_rfl
theorem sq1:seq "shift" "row"=false:=by kernel_rfl
theorem sq2:seq "inner" "row"=false:=by kernel_rfl
end
theorem body1282:d1282.body=d1282.body.take 3++((d1282.body.drop 3).take 3++((d1282.body.drop 6).take 1++d1282.body.drop 7)):=by kernel_rfl
theorem o0h(S:Str)(sg o up:Nat)(sv:Int)(l:List Nd):∃w,look "row" (rowC S sg o up++boxC S sg o up sv l)=some (.str w)∧wden w=S++wden (setW sg o up)∧wlen w=100+wlen (setW sg o up):=by
 unfold rowC
 cases setW sg o up with
 |nil=>exact⟨[.h S 100],lk9 ..,by rw[a0e];exact b0k (by rw[c0i];show _=_++[];rw[List.append_nil]),rfl⟩
 |cons x w=>exact⟨[Ch.h S 100]++x::w,lk10 (V.str ([Ch.h S 100]++x::w)) (boxC S sg o up sv l),by rw[a0c,a0e],by rw[b0d];rfl⟩
theorem g0g{S:Str}{sg o up:Nat}{sv:Int}{l:List Nd}{x:Str}(hx:seq x "row"=false):look x (rowC S sg o up++boxC S sg o up sv l)=look x (boxC S sg o up sv l):=by
 unfold rowC
 split
 ·rfl
 ·rw[List.cons_append]
  refine(g0h x "row" _ _).trans ?_
  rw[hx];rfl
theorem h0l{X:Cx}{n k:Nat}(hK:IsX X)(hn:29≤n)(hl:OvOK X n (ovListC k 3))(HR:BoxRunA k):OvOK X (n+7) (ovBoxC k):=by
 refine b0x (fnCW hK f1282) (λx0=>rfl) λnd r e nb l hx=>hx.eBox λkk sh sg o up a b c inner hb x0=> ?_
 ·have hb:=hb.tl.tl
  have b1:kk<2:=hb.hd (by decide)
  have b4:sh<4:=hb.tl.hd (by decide)
  have b2:sg<3:=hb.tl.tl.hd (by decide)
  have b5:o<4:=hb.tl.tl.tl.hd (by decide)
  have b3:up<5:=hb.tl.tl.tl.tl.hd (by decide)
  have mk:=List.mem_range.mpr b1
  have mp:(sg,o,up)∈setP:=a0f (List.mem_range.mpr b2) (a0f (List.mem_range.mpr b5) (List.mem_range.mpr b3))
  have msh:=List.mem_range.mpr b4
  rw[w0s]
  refine d0i (n:=n+6) (fl:=.ret (.abs (.part (.box kk sh sg o up a b c inner)))) (st':=⟨("node",.obj 412 (boxFs kk sh sg o up a b c inner))::boxD (wden (rowW kk a b c)++wden (setW sg o up)) sh inner,none,⟨r,e,orB nb (dnL inner),0⟩⟩) hK f1282 (len1282 (k:=Int.ofNat k)).1 (len1282 (k:=Int.ofNat k)).2.1 (len1282 (k:=Int.ofNat k)).2.2 λA env B f s m cm hA hsc C R S=> ?_
  have HS:SndS X A env B (RUN2 (ovL3 k) ["node"] d1282.sc):=by rw[show d1282.sc=env.scope from hsc.symm];exact p0p hK (hl.or ((d0t hK).at hn)) hA C
  have HS2:SndS X A env B (RUN2 ovP ["node"] d1282.sc):=by rw[show d1282.sc=env.scope from hsc.symm];exact p0p hK ((d0t hK).at hn) hA C
  show TrS X A env B (execs d1282.body env) _ _ _ _ _
  rw[body1282]
  refine a0w C HS _ _ _ f s m cm (a0a (HR kk sh sg o a b c inner r e nb) up (List.mem_range.mpr b3)) R S λf1 h1 t1 m1 cm1 le1 R1 S1=> ?_
  refine a0w C HS2 _ _ _ f1 _ m1 cm1 (a0a (u0h (Int.ofNat k) sh sg o up a b c inner _) kk mk) R1 S1 λf2 h2 t2 m2 cm2 le2 R2 S2=> ?_
  obtain⟨v,hv1,hv2⟩:=R2.vars "row" (.str (rowW kk a b c)) (lk1 ..)
  have hw:wok (rowW kk a b c):=d0o hv2
  have hwl:wlen (rowW kk a b c)≤100:=Nat.le_of_ble_eq_true (a0o (s0i a b c) _ mk)
  obtain⟨hsl,hsw⟩:=e0j (a0o t0s _ mp)
  have hsl:=Nat.le_of_ble_eq_true hsl
  have hsw:=f0h hsw
  obtain⟨hhl,hhw⟩:=e0j (a0o m0m _ msh)
  have hhl:=Nat.le_of_ble_eq_true hhl
  have hhw:=f0h hhw
  dsimp only at hsl hsw hhl hhw
  have R3:Rel X env B f2 h2 (boxC (wden (rowW kk a b c)) sg o up (Int.ofNat sh - 1) inner) (some ("node",.ins 412 (boxFs kk sh sg o up a b c inner))) m2 cm2:=R2.weakL (.cons (lk1 (Int.ofNat k) kk sh sg o up a b c inner) (λX f v h=>e0m h hwl) (.same (lk2 (Int.ofNat k) kk sh sg o up a b c inner) (.same (lk3 (Int.ofNat k) kk sh sg o up a b c inner) (.same (lk4 (Int.ofNat k) kk sh sg o up a b c inner) (.same (lk5 (Int.ofNat k) kk sh sg o up a b c inner) (.same (lk6 (Int.ofNat k) kk sh sg o up a b c inner) .nil))))))
  refine TrS.ofSt (st₂:=⟨boxC (wden (rowW kk a b c)) sg o up (Int.ofNat sh - 1) inner,some ("node",.ins 412 (boxFs kk sh sg o up a b c inner)),⟨r,e,orB nb (dnL inner),0⟩⟩) ?_
  refine a0w C HS2 _ _ _ f2 _ m2 cm2 (a0a (t0f (wden (rowW kk a b c)) (Int.ofNat sh - 1) inner 412 (boxFs kk sh sg o up a b c inner) _) (sg,o,up) mp) R3 S2 λf3 h3 t3 m3 cm3 le3 R4 S4=> ?_
  obtain⟨w,hw1,hw2,hw3⟩:=o0h (wden (rowW kk a b c)) sg o up (Int.ofNat sh - 1) inner
  have R5:Rel X env B f3 h3 (boxD (wden (rowW kk a b c)++wden (setW sg o up)) sh inner) (some ("node",.ins 412 (boxFs kk sh sg o up a b c inner))) m3 cm3:=R4.weakL (.cons hw1 (λX f v h=>by rw[←hw2];exact e0m h (by lia)) (.same ((g0g sq1).trans (lk7 ..)) (.same ((g0g sq2).trans (lk8 ..)) .nil)))
  have F:=c0a C HS2 _ _ _ _ f3 {s with heap:=h3,toks:=t3} m3 cm3 (a0a (v0l (wden (rowW kk a b c)++wden (setW sg o up)) inner (boxFs kk sh sg o up a b c inner) _) sh msh) R5 S4
  refine TrS.ofSt (TrS.res F λf v h=> ?_)
  have hok:wok (textOf (.box kk sh sg o up a b c inner)):=by rw[e0k];exact a0p hw (a0p hsw hhw)
  refine .abs (Nat.le_trans (a0s hok) ?_) ?_
  ·rw[e0k,b0d,b0d];lia
  ·cases h using VR.eTup with
   |tup fv rv=>
   cases rv with
   |cons g1 rv=>
   cases rv with
   |cons g2 rv=>
   exact .tup fv (.cons g1 (.cons (toHole g2 (by rw[e0k,a0c,a0c,a0c,a0e,show wden (rowW kk a b c)++wden (setW sg o up)=wden (rowW kk a b c++setW sg o up) from(a0c _ _).symm,←a0c,←a0c,←a0c,List.append_assoc]) hok) rv))
noncomputable def mkT:Mk2:=λC xs σ=>match Nat.beq C 312,xs with
 |true,[]=>some (.tot z4 z4,σ)
 |_,_=>none
theorem b1y{X:Cx}{n:Nat}(hK:IsX X):MkOK X (n+1) mkT:=by
 intro C xs σ o σ' e
 unfold mkT at e
 split at e
 ·rename_i h
  cases e
  have h:=Nat.eq_of_beq_eq_true h
  subst h
  exact t0o hK
 ·cases e
noncomputable def RUN3(ov:Ov)(W:List Str)(sc:Scope):RcS:=ev2 (lvl ecT fns mks ov 80 6) mkT W sc 80
theorem p0w{X:Cx}{A:Around}{n:Nat}{ov:Ov}{W:List Str}{env:Env}{B:Bs}(hK:IsX X)(ho:OvOK X n ov)(hA:Room X A (n+6))(C:Cz X env B):SndS X A env B (RUN3 ov W env.scope):=
 w0m (b0z (a0y hK) 6 ho) (b1y hK) hA C 80
noncomputable def ovL2(k:Nat):Ov:=orOv (ovListC k 2) ovP
noncomputable def cellA(k:Int)(sp m o:Nat)(a b c:Int)(l:List Nd):Vars:=[("order",nat o),("more",nat m),("spans",.int (1+Int.ofNat sp)),("totals",.any),("text",.str (sizesW a b c)),("sizes",.lst [.dimn a,.dimn b,.dimn c] 3),("inner",.abs (.parts l)),("heap",.gl 0),("tools",.abs .tools),("deep",.int k)]
noncomputable def CellRunA(k:Nat):Prop:=∀(sp m o:Nat)(a b c:Int)(l:List Nd)(r:List Dr)(e:P2)(nb:Bool),evSs (RUN3 (ovL2 k) ["totals"] d1287.sc) (d1287.body.take 3) ⟨varsOf d1287 [.gl 0,.abs .tools,.int (Int.ofNat k)] [],none,⟨.list k 2 l:: .sizes a b c:: .v 3 sp:: .v 5 m:: .v 4 o::r,e,nb,0⟩⟩=
 some (.next,⟨cellA (Int.ofNat k) sp m o a b c l,some ("totals",.tot z4 z4),⟨r,e,orB nb (dnL l),0⟩⟩)
theorem l0u:CellRunA 0:=λsp m o a b c l r e nb=>by kernel_rfl
theorem m0u:CellRunA 1:=λsp m o a b c l r e nb=>by kernel_rfl
noncomputable def moP:List (Nat × Nat):=prd (List.range 5) (List.range 4)
noncomputable abbrev R3:RcS:=RUN3 ovP ["totals"] d1287.sc
theorem n0d(k:Int)(sp:Nat)(a b c:Int)(l:List Nd)(σ:Gs):moP.map (λp=>evSs R3 ((d1287.body.drop 3).take 2) ⟨cellA k sp p.1 p.2 a b c l,some ("totals",.tot z4 z4),σ⟩)=
 mapR (λp=>some (.next,⟨cellA k sp p.1 p.2 a b c l,some ("totals",.tot (four p.2 (32768 * (p.1:Int))) (four 0 (32768 * ((p.1 / 2:Nat):Int)))),σ⟩)) moP:=by kernel_rfl
noncomputable def cellW(sp:Nat)(a b c:Int):Wd:=wS "\\unsetbox"++(sizesW a b c++(match sp with|0=>[]|s+1=>wS " ("++(intW (Int.ofNat (s+2))++wS " columns)")))
theorem r0n(k:Int)(m o:Nat)(a b c:Int)(l:List Nd)(p q:List V)(σ:Gs):(List.range 3).map (λsp=>evSs R3 ((d1287.body.drop 5).take 1) ⟨cellA k sp m o a b c l,some ("totals",.tot p q),σ⟩)=
 mapR (λsp=>some (.next,⟨("row",.str (cellW sp a b c))::cellA k sp m o a b c l,some ("totals",.tot p q),σ⟩)) (List.range 3):=by kernel_rfl
noncomputable def cellD(S:Str)(sp m o:Nat)(a b c:Int)(l:List Nd):Vars:=[("row",.str [.h S 200]),("more",nat m),("order",nat o),("spans",.int (1+Int.ofNat sp)),("sizes",.lst [.dimn a,.dimn b,.dimn c] 3),("inner",.abs (.parts l))]
noncomputable def moreW(m o:Nat):Wd:=(match m with|0=>[]|k+1=>wS ", stretch "++(hw (Int.ofNat (k+1))++ordW o))++(match m with|0=>[]|1=>[]|k+2=>wS ", shrink "++hw (Int.ofNat ((k+2) / 2)))
theorem q0y(S:Str)(sp:Nat)(a b c:Int)(l:List Nd)(u v:List V)(σ:Gs):moP.map (λp=>evSs R3 ((d1287.body.drop 6).take 1) ⟨cellD S sp p.1 p.2 a b c l,some ("totals",.tot u v),σ⟩)=
 mapR (λp=>some (.next,⟨("row",.str ([.h S 200]++moreW p.1 p.2))::cellD S sp p.1 p.2 a b c l,some ("totals",.tot u v),σ⟩)) moP:=by kernel_rfl
noncomputable def cellE(T:Str)(sp:Nat)(a b c:Int)(l:List Nd):Vars:=[("row",.str [.h T 300]),("spans",.int (1+Int.ofNat sp)),("sizes",.lst [.dimn a,.dimn b,.dimn c] 3),("inner",.abs (.parts l))]
noncomputable def cellFs(sp:Nat)(a b c:Int)(l:List Nd)(u v:List V):List (Str × V):=[("width",.dimn c),("height",.dimn a),("depth",.dimn b),("items",.abs (.items l)),("spans",nat (sp+1)),("totals",.obj 312 [("natural",.int 0),("stretch",.lst u u.length),("shrink",.lst v v.length)]),("is_vertical",.bool false)]
theorem n0t(T:Str)(a b c:Int)(l:List Nd)(u v:List V)(σ:Gs):(List.range 3).map (λsp=>evSs R3 (d1287.body.drop 7) ⟨cellE T sp a b c l,some ("totals",.tot u v),σ⟩)=
 mapR (λsp=>some (.ret (.tup [.obj 708 (cellFs sp a b c l u v),.str [.h T 300],.lst [.tup [.str (wS "."),.abs (.parts l)]] 1,.lst [] 0]),⟨("totals",owV (.tot u v))::cellE T sp a b c l,none,σ⟩)) (List.range 3):=by kernel_rfl
theorem app3(a b c d:Wd):a++(b++(c++d))=(a++(b++c))++d:=by rw[List.append_assoc,List.append_assoc]
theorem d0n(sp m o:Nat)(a b c:Int)(l:List Nd):textOf (.cell sp m o a b c l)=cellW sp a b c++moreW m o:=by
 rcases sp with _|sp<;>rcases m with _|_|m<;>exact app3 ..
theorem o0t(a b c:Int):allB (λsp=>Nat.ble (wlen (cellW sp a b c)) 200) (List.range 3)=true:=by kernel_rfl
theorem q0x:allB (λp:Nat × Nat=>andB (Nat.ble (wlen (moreW p.1 p.2)) 100) ((wlit (moreW p.1 p.2)).isSome)) moP=true:=by kernel_rfl
theorem f1287:findE 1287 fns=some e1287:=by kernel_rfl
theorem body1287:d1287.body=d1287.body.take 3++((d1287.body.drop 3).take 2++((d1287.body.drop 5).take 1++((d1287.body.drop 6).take 1++d1287.body.drop 7))):=by kernel_rfl
theorem len1287{k:Int}:Nat.ble [V.gl 0,.abs .tools,.int k].length e1287.D.names.length=true∧Nat.ble e1287.dxs.length e1287.D.names.length=true∧Nat.ble e1287.D.names.length ([V.gl 0,.abs .tools,.int k].length+e1287.dxs.length)=true:=⟨by kernel_rfl,by kernel_rfl,by kernel_rfl⟩
section
variable (k:Int) (sp m o:Nat) (a b c:Int) (l:List Nd) (S:Str)
noncomputable def cellB:Vars:=("row",.str (cellW sp a b c))::cellA k sp m o a b c l
noncomputable def cellB2:Vars:=("row",.str ([.h S 200]++moreW m o))::cellD S sp m o a b c l
theorem ck1:look "row" (cellB k sp m o a b c l)=some (.str (cellW sp a b c)):=by kernel_rfl
theorem ck2:look "more" (cellB k sp m o a b c l)=some (nat m):=by kernel_rfl
theorem ck3:look "order" (cellB k sp m o a b c l)=some (nat o):=by kernel_rfl
theorem ck4:look "spans" (cellB k sp m o a b c l)=some (.int (1+Int.ofNat sp)):=by kernel_rfl
theorem ck5:look "sizes" (cellB k sp m o a b c l)=some (.lst [.dimn a,.dimn b,.dimn c] 3):=by kernel_rfl
theorem ck6:look "inner" (cellB k sp m o a b c l)=some (.abs (.parts l)):=by kernel_rfl
theorem ck7:look "row" (cellB2 sp m o a b c l S)=some (.str ([.h S 200]++moreW m o)):=by kernel_rfl
theorem ck8:look "spans" (cellB2 sp m o a b c l S)=some (.int (1+Int.ofNat sp)):=by kernel_rfl
theorem ck9:look "sizes" (cellB2 sp m o a b c l S)=some (.lst [.dimn a,.dimn b,.dimn c] 3):=by kernel_rfl
theorem ck10:look "inner" (cellB2 sp m o a b c l S)=some (.abs (.parts l)):=by kernel_rfl
end
theorem l0h(o:Nat)(x:Int):(four o x).length=4:=by unfold four;split<;>rfl
theorem i0l{X:Cx}{n k:Nat}(hK:IsX X)(hn:29≤n)(hl:OvOK X n (ovListC k 2))(HR:CellRunA k):OvOK X (n+7) (ovCellC k):=by
 refine b0x (fnCW hK f1287) (λx0=>rfl) λnd r e nb l hx=>hx.eCell λsp m o a b c inner hb x0=> ?_
 ·have hb:=hb.tl.tl
  have b1:sp<3:=hb.hd (by decide)
  have b2:m<5:=hb.tl.hd (by decide)
  have b3:o<4:=hb.tl.tl.hd (by decide)
  have ms:=List.mem_range.mpr b1
  have mp:(m,o)∈moP:=a0f (List.mem_range.mpr b2) (List.mem_range.mpr b3)
  rw[a1f]
  refine d0i (n:=n+6) (fl:=.ret (.abs (.part (.cell sp m o a b c inner)))) (st':=⟨("totals",owV (.tot (four o (32768 * (m:Int))) (four 0 (32768 * ((m / 2:Nat):Int)))))::cellE (wden ([.h (wden (cellW sp a b c)) 200]++moreW m o)) sp a b c inner,none,⟨r,e,orB nb (dnL inner),0⟩⟩) hK f1287 (len1287 (k:=Int.ofNat k)).1 (len1287 (k:=Int.ofNat k)).2.1 (len1287 (k:=Int.ofNat k)).2.2 λA env B f s mm cm hA hsc C R S=> ?_
  have HS:SndS X A env B (RUN3 (ovL2 k) ["totals"] d1287.sc):=by rw[show d1287.sc=env.scope from hsc.symm];exact p0w hK (hl.or ((d0t hK).at hn)) hA C
  have HS2:SndS X A env B (RUN3 ovP ["totals"] d1287.sc):=by rw[show d1287.sc=env.scope from hsc.symm];exact p0w hK ((d0t hK).at hn) hA C
  show TrS X A env B (execs d1287.body env) _ _ _ _ _
  rw[body1287]
  refine a0w C HS _ _ _ f s mm cm (HR sp m o a b c inner r e nb) R S λf1 h1 t1 m1 cm1 le1 R1 S1=> ?_
  refine a0w C HS2 _ _ _ f1 _ m1 cm1 (a0a (n0d (Int.ofNat k) sp a b c inner _) (m,o) mp) R1 S1 λf2 h2 t2 m2 cm2 le2 R2 S2=> ?_
  refine a0w C HS2 _ _ _ f2 _ m2 cm2 (a0a (r0n (Int.ofNat k) m o a b c inner (four o (32768 * (m:Int))) (four 0 (32768 * ((m / 2:Nat):Int))) _) sp ms) R2 S2 λf3 h3 t3 m3 cm3 le3 R3 S3=> ?_
  obtain⟨v,hv1,hv2⟩:=R3.vars "row" (.str (cellW sp a b c)) (ck1 ..)
  have hw:wok (cellW sp a b c):=d0o hv2
  have hwl:wlen (cellW sp a b c)≤200:=Nat.le_of_ble_eq_true (a0o (o0t a b c) _ ms)
  obtain⟨hsl,hsw⟩:=e0j (a0o q0x _ mp)
  have hsl:=Nat.le_of_ble_eq_true hsl
  have hsw:=f0h hsw
  dsimp only at hsl hsw
  have R4:Rel X env B f3 h3 (cellD (wden (cellW sp a b c)) sp m o a b c inner) (some ("totals",.tot (four o (32768 * (m:Int))) (four 0 (32768 * ((m / 2:Nat):Int))))) m3 cm3:=R3.weakL (.cons (ck1 (Int.ofNat k) sp m o a b c inner) (λX f v h=>e0m h hwl) (.same (ck2 (Int.ofNat k) sp m o a b c inner) (.same (ck3 (Int.ofNat k) sp m o a b c inner) (.same (ck4 (Int.ofNat k) sp m o a b c inner) (.same (ck5 (Int.ofNat k) sp m o a b c inner) (.same (ck6 (Int.ofNat k) sp m o a b c inner) .nil))))))
  refine TrS.ofSt (st₂:=⟨cellD (wden (cellW sp a b c)) sp m o a b c inner,some ("totals",.tot (four o (32768 * (m:Int))) (four 0 (32768 * ((m / 2:Nat):Int)))),⟨r,e,orB nb (dnL inner),0⟩⟩) ?_
  refine a0w C HS2 _ _ _ f3 _ m3 cm3 (a0a (q0y (wden (cellW sp a b c)) sp a b c inner (four o (32768 * (m:Int))) (four 0 (32768 * ((m / 2:Nat):Int))) _) (m,o) mp) R4 S3 λf4 h4 t4 m4 cm4 le4 R5 S5=> ?_
  have R6:Rel X env B f4 h4 (cellE (wden ([.h (wden (cellW sp a b c)) 200]++moreW m o)) sp a b c inner) (some ("totals",.tot (four o (32768 * (m:Int))) (four 0 (32768 * ((m / 2:Nat):Int))))) m4 cm4:=R5.weakL (.cons (ck7 sp m o a b c inner _) (λX f v h=>e0m h (by rw[b0d];show 200+wlen (moreW m o)≤300;lia)) (.same (ck8 sp m o a b c inner _) (.same (ck9 sp m o a b c inner _) (.same (ck10 sp m o a b c inner _) .nil))))
  have F:=c0a C HS2 _ _ _ _ f4 {s with heap:=h4,toks:=t4} m4 cm4 (a0a (n0t (wden ([.h (wden (cellW sp a b c)) 200]++moreW m o)) a b c inner (four o (32768 * (m:Int))) (four 0 (32768 * ((m / 2:Nat):Int))) _) sp ms) R6 S5
  refine TrS.ofSt (TrS.res F λf v h=> ?_)
  have hok:wok (textOf (.cell sp m o a b c inner)):=by rw[d0n];exact a0p hw hsw
  refine .abs (Nat.le_trans (a0s hok) ?_) ?_
  ·rw[d0n,b0d];lia
  ·cases h using VR.eTup with
   |tup fv rv=>
   cases rv with
   |cons g1 rv=>
   cases rv with
   |cons g2 rv=>
   refine .tup fv (.cons ?_ (.cons (toHole g2 (by rw[d0n,a0e,a0c,a0c,a0e]) hok) rv))
   unfold cellFs at g1
   rw[l0h,l0h] at g1
   exact g1
theorem tower{X:Cx}(hK:IsX X):OvOK X 109 (ovBoxC 2):=by
 have p0:OvOK X 36 (ovPartC 0):=m0s hK
 have l02:OvOK X 43 (ovListC 0 2):=c0z hK (by decide) p0 (by decide) m0x
 have l03:OvOK X 43 (ovListC 0 3):=c0z hK (by decide) p0 (by decide) m0k
 have b0:OvOK X 50 (ovBoxC 0):=h0l hK (by decide) l03 o0f
 have c0:OvOK X 50 (ovCellC 0):=i0l hK (by decide) l02 l0u
 have s1:OvOK X 57 (ovSkipC 1):=i0s hK (by decide) b0 m0n
 have p1:OvOK X 64 (ovPartC 1):=g0l hK (by decide) (b0.at (by decide)) (c0.at (by decide)) s1 (l02.at (by decide)) partRuns0
 have l12:OvOK X 71 (ovListC 1 2):=c0z hK (by decide) p1 (by decide) m0q
 have l13:OvOK X 71 (ovListC 1 3):=c0z hK (by decide) p1 (by decide) m0z
 have b1:OvOK X 78 (ovBoxC 1):=h0l hK (by decide) l13 r0e
 have c1:OvOK X 78 (ovCellC 1):=i0l hK (by decide) l12 m0u
 have s2:OvOK X 85 (ovSkipC 2):=i0s hK (by decide) b1 m0e
 have p2:OvOK X 92 (ovPartC 2):=g0l hK (by decide) (b1.at (by decide)) (c1.at (by decide)) s2 (l12.at (by decide)) partRuns1
 have l23:OvOK X 99 (ovListC 2 3):=c0z hK (by decide) p2 (by decide) m0v
 exact(h0l hK (by decide) l23 r0y).at (by decide)
theorem o0v:typeLookup (.type "bytes") "__len__"=pure (some (.builtin "bytes.__len__")):=by rw[typeLookup_type,builtinLookup_eq_fast];kernel_rfl
noncomputable abbrev BAt(b:Array UInt8)(i:Nat)(v:Value):Prop:=∃c u,b[i]? =some c∧v= .int (c.toNat:Int) u
section
variable {prog:Program} {w:World} {A:Around} {E:Value->Shared->Prop} {s:Shared}
theorem i0v{Q:List Value->Shared->Prop}(hh:A.handled=none)(x:Array UInt8)(t:Tok)(hn:x.size≤sizeLine)
  (hQ:∀s' acc,(∀b o,s.heap.get? b=some o->s'.heap.get? b=some o)->s'.gens=s.gens->s'.drawn=s.drawn->s'.os=s.os->ItemsOf (BAt x) acc x.size->Q acc.toList s'):
  wpAny (model prog w) A (collect (.bytes x t)) Q E s:=by
 unfold collect
 refine wpAny_bind (wpAny_runValue (codeAny_builtin F.entry_proto_collect ?_))
 rw[Around.under_plainId F.plain_proto_collect _]
 show wpAny _ A.in1 (newList [] >>= λl=>again (.builtin "list.__iadd__" ⟨[l,.bytes x t],[]⟩)) _ _ s
 refine wpAny_bind (wpAny_newObj_type ?_)
 refine wpAny_pure ⟨plainId_quiet F.plain_list_iadd _,codeAny_builtin F.entry_list_iadd ?_⟩
 rw[Around.under_plainId F.plain_list_iadd _]
 show wpAny _ A.in1 (Builtin.List.listExtendWith (.ref s.heap.objs.size) (.bytes x t) (.ref s.heap.objs.size)) _ _ _
 unfold Builtin.List.listExtendWith
 refine wpAny_bind (wpAny_typeOf (T:="bytes") (v:=.bytes x t) rfl ?_)
 have h1:Builtin.List.listSameRef (.ref s.heap.objs.size) (.bytes x t)=false:=rfl
 have h2:(Value.type "bytes"==Value.type "list")=false:=by decide
 have h3:(Value.type "bytes"==Value.type "tuple")=false:=by decide
 simp only [h1,h2,h3,Bool.or_false,Bool.false_eq_true,if_false]
 refine wpAny_bind (KBw.pyIter_bytes ?_)
 refine wpAny_bind (wpAny_holding ?_)
 unfold Builtin.List.listLengthHint
 refine wpAny_bind (@wpAny_specialOf _ _ _ _ (.bytes x t) "bytes" _ _ _ rfl o0v ?_)
 wp_delta
 refine wpAny_bind (wpAny_isInstance (T:="bytes") (v:=.bytes x t) (b:=true) rfl (by rw[isSubtype_type];kernel_rfl) ?_)
 show wpAny _ A.in1 (typeOf (Value.bytes x t) >>= _) _ _ _
 refine wpAny_bind (wpAny_typeOf (T:="bytes") (v:=.bytes x t) rfl ?_)
 refine wpAny_pure ?_
 rw[if_neg (by decide)]
 generalize hH:s.heap.push {cls:=.type "list",data:=.seq ([]:List Value).toArray}=H
 have hHs:H.objs.size=s.heap.objs.size+1:=by rw[←hH,Heap.size_push]
 have hSf:s.heap.objs.size ∉ [H.objs.size]:=λhm=>by rw[List.mem_singleton.mp hm] at hHs;exact absurd hHs (Nat.ne_of_lt (Nat.lt_succ_self _))
 have hS:(H.push {cls:=.type "bytes_iterator",data:=.fields #[.bytes x t,.int 0 0]}).get? s.heap.objs.size=some {cls:=.type "list",data:=.seq ([]:List Value).toArray}:=Heap.get?_push_of_some _ (hH▸Heap.get?_push_size _ rfl)
 refine wpAny_pure ⟨plainId_quiet F.plain_extend_loop _,codeAny_extend_loopS (KBw.walks (A:=A.in1) hh H.objs.size x t).toS hn _ hSf _ x.size 0 _ _ _ rfl (Nat.zero_le _) ⟨_,Heap.get?_push_size _ rfl,rfl,rfl⟩ hS (ItemsOf.nil _) λs' acc' c' hm hS' hacc=> ?_⟩
 show wpAny _ A (load s.heap.objs.size >>= _) _ _ s'
 refine wpAny_bind (wpAny_load hS' ?_)
 refine wpAny_pure (hQ s' acc' (λb ob e=>hm.heap b ob (λhb=> ?_) (Heap.get?_push_of_some _ (hH▸Heap.get?_push_of_some _ e))) hm.gens hm.drawn hm.os hacc)
 have hlt:=Heap.lt_size e
 rcases List.mem_cons.mp hb with h|h
 ·exact absurd hlt (h▸Nat.lt_irrefl _)
 ·rw[List.mem_singleton.mp h,hHs] at hlt;exact absurd hlt (Nat.not_lt.mpr (Nat.le_succ _))
theorem m0p{Q:Value->Shared->Prop}(hh:A.handled=none)(x:Array UInt8)(t:Tok)(hn:x.size≤sizeLine)
  (hQ:∀(h':Heap)(tk:Nat)(acc:Array Value),(∀b o,s.heap.get? b=some o->h'.get? b=some o)->ItemsOf (BAt x) acc x.size->Q (.ref h'.objs.size) {s with heap:=h'.push {cls:=.type "tuple",data:=.seq acc},toks:=tk}):
  codeAny (model prog w) A (.call (.builtin "tuple.__new__") ⟨[.type "tuple",.bytes x t],[]⟩) (wants Q E) s:=by
 refine codeAny_of_tree ?_
 show wpAny _ A.in1 (do checkBuiltinCall "tuple.__new__" ⟨[.type "tuple",.bytes x t],[]⟩;again (.builtin "tuple.__new__" ⟨[.type "tuple",.bytes x t],[]⟩)) _ _ s
 refine wpAny_bind (wpAny_of_eq (F.newCall_tuple_1 _) (wpAny_pure ⟨plainId_quiet F.plain_tuple_new _,codeAny_builtin F.entry_tuple_new ?_⟩))
 rw[Around.under_plainId F.plain_tuple_new _]
 have hsub:=sub_tuple_self
 have hinit:=init_tuple_lookup
 have hmh:=madeHere_tuple
 have hTI:s.TypeIs (.bytes x t) "bytes":=rfl
 have hG:=λ(M:Value->Shared->Prop)(s':Shared)(Q:List Value->Shared->Prop)=>@i0v prog w A.in1 M s' Q hh x t hn
 wp_walk using wpAny_typeOf hTI,hG
 intro s' acc hk hg hd ho hacc
 show wpAny _ _ (Builtin.Tuple.tupleExact acc.toList.toArray >>= λv=>ret v) _ _ _
 unfold Builtin.Tuple.tupleExact
 refine wpAny_bind (wpAny_newObj_type ?_ (by show acc.toList.toArray.size≤sizeLine;simp only [Array.toArray_toList];rw[hacc.1];exact hn))
 refine wpAny_pure ?_
 have e:acc.toList.toArray=acc:=by simp
 rw[e]
 have:=hQ s'.heap s'.toks acc hk hacc
 obtain⟨h,g,d,tk,os⟩:=s'
 dsimp only at hg hd ho
 subst hg hd ho
 exact this
theorem j0r{Q:Value->Shared->Prop}(hh:A.handled=none)(x:Array UInt8)(t:Tok)(hn:x.size≤sizeLine)
  (hQ:∀(h':Heap)(tk:Nat)(acc:Array Value),(∀b o,s.heap.get? b=some o->h'.get? b=some o)->ItemsOf (BAt x) acc x.size->Q (.ref h'.objs.size) {s with heap:=h'.push {cls:=.type "tuple",data:=.seq acc},toks:=tk}):
  wpAny (model prog w) A (call (.type "tuple") [.bytes x t]) Q E s:=by
 refine callType_codes (Q₁:=λobj s₁=>s₁.TypeIs obj "tuple"∧Q obj s₁) F.called_tuple (F.typeCall_tuple_1 _) F.entry_object_init
  (m0p (A:=A.in1) (Q:=λobj s₁=>s₁.TypeIs obj "tuple"∧Q obj s₁) (show A.in1.handled=none from hh) x t hn λh' tk acc hk hacc=>⟨⟨_,Heap.get?_push_size _ rfl,rfl⟩,hQ h' tk acc hk hacc⟩) λobj s₁ h₁=> ?_
 exact⟨h₁.1,F.args_object_init_2 obj _,object_init_meets F.called_tuple.init.lookup F.called_tuple.made (by decide) prog w A.in1 _ s₁ ⟨h₁.1,rfl,h₁.2⟩⟩
end
theorem r0m{X:Cx}{f:FH}:∀{vs:List Value}{L:List UInt8},vs.length=L.length->(∀(i:Nat)(v:Value),vs[i]? =some v->∃(c:UInt8)(u:Tok),L[i]? =some c∧v=Value.int (c.toNat:Int) u)->VRs X f vs (seqV.octs (L.map UInt8.toNat))
 |[],[],_,_=>.nil
 |[],_::_,h,_=>by cases h
 |_::_,[],h,_=>by cases h
 |v::vs,c::L,h,H=>by
  obtain⟨c',u,e1,e2⟩:=H 0 v rfl
  cases e1
  subst e2
  exact .cons (.int _ _) (r0m (Nat.succ.inj h) λi v hv=>H (i+1) v hv)
theorem d1v{X:Cx}(hlp:X.lp=true){l:List Nat}{σ:Gs}(hb:Nat.ble l.length 1000=true):FnV X 0 (.type "tuple") [.byt l] σ (.tup (seqV.octs l)) σ:=by
 refine⟨c0g,λA f s vs hA S hv Q E hQ=> ?_⟩
 cases hv with
 |cons hV hv=>
 cases hv
 cases hV using VR.eByt with
 |byt b t hl=>
 have hs:b.size≤1000:=by
  have:=Nat.le_of_ble_eq_true hb
  rw[←hl,List.length_map,Array.length_toList] at this
  exact this
 refine j0r (hA.1 hlp) b t (by rw[line24];lia) λh' tk acc hk hacc=> ?_
 have K1:Kp X f s.heap f h':=⟨λb o e x0=>hk b o e,FH.le.refl f,λx0 x0 e=>.inl e⟩
 have S1:St X f σ h':=⟨S.base,λb o e=>hk _ _ (S.isIn _ _ e),S.inv.same λb o x0 e=>hk _ _ e,S.off,S.nolim.keeps hk⟩
 have z:=S1.alloc (o:={cls:=.type "tuple",data:=.seq acc}) rfl
 refine hQ _ _ _ _ (K1.trans z.2) z.1 ?_
 have:=r0m (X:=X) (f:=f.put h'.objs.size {cls:=.type "tuple",data:=.seq acc}) (vs:=acc.toList) (L:=b.toList) (by rw[Array.length_toList,Array.length_toList];exact hacc.1) λi v hv=>by
  obtain⟨c,u,h1,h2⟩:=hacc.2 i v (by simpa using hv)
  exact⟨c,u,by simpa using h1,h2⟩
 rw[hl] at this
 exact .tup (vs:=acc.toList) (by simpa using FH.put_self ..) this
noncomputable def ovTBP:∀g xs σ,OvR (λX=>X.lp=true) 0 g xs σ:=λg xs σ=>match g,xs with
 | .type "tuple",[.byt l]=>.onT (Nat.ble l.length 1000) λhb=>.ok (.tup (seqV.octs l)) σ λX hl=>d1v hl hb
 |_,_=>.no
noncomputable def ovTB:Ov:=ovOf ovTBP
theorem y0t{X:Cx}(hlp:X.lp=true):OvOK X 0 ovTB:=b0c hlp
noncomputable def objK(k:Nat):Nd->V
 | .box kk sh sg o up a b c l=>.obj 412 [("kind",nat (2+kk)),("width",.dimn c),("height",.dimn a),("depth",.dimn b),("items",.abs (.sub k (.items l))),("shift",.int (32768 * ((sh:Int) - 1))),("sign",nat sg),("order",nat o),("ratio",.tup [nat (upOf up),.int 2])]
 | .cell sp m o a b c l=>.obj 708 [("width",.dimn c),("height",.dimn a),("depth",.dimn b),("items",.abs (.sub k (.items l))),("spans",nat (sp+1)),("totals",.obj 312 [("natural",.int 0),("stretch",.lst (four o (32768 * (m:Int))) 4),("shrink",.lst (four 0 (32768 * ((m / 2:Nat):Int))) 4)]),("is_vertical",.bool false)]
 | .lead s g l=>.obj 476 [("glue",.abs (.glu g)),("sort",nat (1+s)),("leader",.abs (.sub k (.node l)))]
 | .disc a b c=>.obj 518 [("pre",.abs (.sub k (.items a))),("post",.abs (.sub k (.items b))),("middle",.abs (.sub k (.items c)))]
 | .adj l=>.obj 581 [("items",.abs (.sub k (.items l)))]
 | .ins num size cost g l=>.obj 560 [("number",.oct num),("size",.dimn (Int.ofNat size)),("depth",.int 65536),("top",.abs (.glu g)),("cost",.num cost),("items",.abs (.sub k (.items l)))]
 |nd=>objOf nd
theorem Le.sub{k:Nat}{d:Dom}(h:DomWf k d):Le (.abs d) (.abs (.sub k d)):=λX f v hv=>by
 cases hv using VR.eAbs with
 |abs k' h'=>exact .abs ⟨k',h⟩ h'
theorem p0n{k:Nat}{nd:Nd}(hw:WfN (k+1) nd):Le (objOf nd) (objK k nd):=by
 cases nd with
 |box kk sh sg o up a b c l=>exact .obj (.cons (.refl _) (.cons (.refl _) (.cons (.refl _) (.cons (.refl _) (.cons (Le.sub (d:=.items l) hw.2) (.refl _))))))
 |cell sp m o a b c l=>exact .obj (.cons (.refl _) (.cons (.refl _) (.cons (.refl _) (.cons (Le.sub (d:=.items l) hw.2) (.refl _)))))
 |lead s g l=>exact .obj (.cons (.refl _) (.cons (.refl _) (.cons (Le.sub (d:=.node l) hw.2.2.2) .nil)))
 |disc a b c=>
  have q:∀{l:List Nd},l.length≤2->(∀x∈l,letOk x)->DomWf k (.items l):=λh1 h2=>⟨by lia,λx hx=>b0s (c0s (h2 x hx))⟩
  exact .obj (.cons (Le.sub (d:=.items a) (q hw.1.1 hw.2.1)) (.cons (Le.sub (d:=.items b) (q hw.1.2.1 hw.2.2.1)) (.cons (Le.sub (d:=.items c) (q hw.1.2.2 hw.2.2.2)) .nil)))
 |adj l=>exact .obj (.cons (Le.sub (d:=.items l) hw) .nil)
 |ins num size cost g l=>exact .obj (.cons (.refl _) (.cons (.refl _) (.cons (.refl _) (.cons (.refl _) (.cons (.refl _) (.cons (Le.sub (d:=.items l) hw.2) .nil))))))
 |_=>exact .refl _
theorem p0y(g:Glu)(σ:Gs):RUN noOv (.ref 203) [.abs (.glu g)] σ=some (gpartsV g,σ):=by kernel_rfl
theorem q0s(σ:Gs):nums.map (λi=>RUN noOv (.ref 719) [.int i] σ)=mapR (λi=>some (.none,σ)) nums:=by kernel_rfl
theorem f719:findE 719 fns=some e719:=by kernel_rfl
noncomputable def ovGpP:∀g xs σ,OvR IsX 7 g xs σ:=λg xs σ=>match g,xs with
 | .ref a,[.abs (.glu g)]=>.at 203 λha=>.ok (.abs (.gparts g)) σ λX hK=>.re ha ((a0g (m:=0) hK d0k _ _ _ _ _ (p0y g σ)).res λf v h=>.abs trivial h)
 | .ref a,[.num i]=>.at 719 λha=>.ok .none σ λX hK=>.re ha (.of1 (fnCW hK f719) λf v h=>by
  cases h using VR.eNum with
  |num t g1 g2=>exact⟨_,.int i t,a0g (m:=0) hK d0k _ _ _ _ _ (a0a (q0s σ) i (b0w g1 g2))⟩)
 |_,_=>.no
noncomputable def ovGp:Ov:=ovAt [203,719] (ovOf ovGpP)
theorem z0r{X:Cx}(hK:IsX X):OvOK X 7 ovGp:=(b0c hK).on
noncomputable def ovE:Ov:=orOv ovGp ovTB
theorem o0w{X:Cx}(hK:IsX X):OvOK X 7 ovE:=(z0r hK).or ((y0t hK.lp).ups 7)
noncomputable def dLeaf(a b c:Nat)(n:Int)(g:Glu):List Nd:=[.char a b,.lig a b 0 0,.lig a b 0 1,.lig a b 1 0,.lig a b 1 1,.mark a,.spec a,.write a,.oout a,.cout a,.skip a g,.kern n a,.pen n,.edge n 0,.edge n 1]++(prd (List.range 3) (prd (List.range 3) (List.range 3))).map λp=>.rule p.1 p.2.1 p.2.2
theorem n0k(j:Int)(a b c:Nat)(n:Int)(g:Glu)(σ:Gs):(dLeaf a b c n g).map (λnd=>RUN ovE (.ref 737) [.abs (.node nd),.num j] σ)=mapR (λnd=>some (descV nd,σ)) (dLeaf a b c n g):=by kernel_rfl
noncomputable def dpt(k:Nat):Int:=Int.ofNat (6 - k)
structure TabR{α:Type}(a:Addr)(xf:α->List V)(yf:α->V)(g:Value)(xs:List V)(σ:Gs)(r:V × Gs)(x:α):Prop where
 g:g= .ref a
 xs:xs=xf x
 r:r=(yf x,σ)
noncomputable abbrev TabO{α:Type}(a:Addr)(xf:α->List V)(yf:α->V)(g:Value)(xs:List V)(σ:Gs):=Option {r:V × Gs // ∃x,TabR a xf yf g xs σ r x}
theorem k0e{α:Type}{X:Cx}{n:Nat}{a:Addr}{xf:α->List V}{yf:α->V}{p:∀g xs σ,TabO a xf yf g xs σ}(H:∀x σ,FnV X n (.ref a) (xf x) σ (yf x) σ):OvOK X n λg xs σ=>valO (p g xs σ):=λg xs σ y σ' e=>by
 obtain⟨x,rfl,rfl,hr⟩:=a0t (o:=p g xs σ) (z:=(y,σ')) e
 cases hr
 exact H x σ
noncomputable def ovDnP(k:Nat):∀g xs σ,TabO 737 (λnd=>[.abs (.sub k (.node nd)),.int (dpt k)]) (λnd=>.abs (.desc nd)) g xs σ:=λg xs σ=>match g,xs with
 | .ref a,[.abs (.sub j (.node nd)),.int i]=>onT (Nat.beq a 737) λh1=>onT (Nat.beq j k) λh2=>onT (ieq i (dpt k)) λh3=>some ⟨(.abs (.desc nd),σ),nd,congrArg Value.ref (Nat.eq_of_beq_eq_true h1),by rw[Nat.eq_of_beq_eq_true h2,a0j h3],rfl⟩
 |_,_=>none
noncomputable def ovDlP(k:Nat):∀g xs σ,TabO 743 (λl=>[.abs (.sub k (.items l)),.int (dpt k)]) (λl=>.abs (.descs l)) g xs σ:=λg xs σ=>match g,xs with
 | .ref a,[.abs (.sub j (.items l)),.int i]=>onT (Nat.beq a 743) λh1=>onT (Nat.beq j k) λh2=>onT (ieq i (dpt k)) λh3=>some ⟨(.abs (.descs l),σ),l,congrArg Value.ref (Nat.eq_of_beq_eq_true h1),by rw[Nat.eq_of_beq_eq_true h2,a0j h3],rfl⟩
 |_,_=>none
noncomputable def ovDn(k:Nat):Ov:=λg xs σ=>valO (ovDnP k g xs σ)
noncomputable def ovDl(k:Nat):Ov:=λg xs σ=>valO (ovDlP k g xs σ)
theorem b0m{α:Type}{l:List α}(i:Nat){x:α}(h:l[i]? =some x):x∈l:=List.mem_of_getElem? h
theorem i0k{n:Nat}(h:n<2):n=0∨n=1:=by lia
noncomputable def g0:Glu:=⟨0,0,0,0,0⟩
noncomputable def ovDN(k:Nat):Ov:=orOv (ovDn k) (orOv (ovDl k) ovE)
noncomputable def dCont(sh sg o up:Nat)(a b c:Int)(l l2 l3:List Nd)(g:Glu)(nd:Nd):List Nd:=[.box 0 sh sg o up a b c l,.box 1 sh sg o up a b c l,.cell sh sg o a b c l,.lead sh g nd,.disc l l2 l3,.adj l,.ins sh sg a g l]
noncomputable def ContRun(k:Nat):Prop:=∀(sh sg o up:Nat)(a b c:Int)(l l2 l3:List Nd)(g:Glu)(nd:Nd)(σ:Gs),(dCont sh sg o up a b c l l2 l3 g nd).map (λnd=>RUN (ovDN k) (.ref 737) [objK k nd,.int (dpt (k+1))] σ)=mapR (λnd=>some (descV nd,σ)) (dCont sh sg o up a b c l l2 l3 g nd)
theorem cont0:ContRun 0:=λsh sg o up a b c l l2 l3 g nd σ=>by kernel_rfl
theorem cont1:ContRun 1:=λsh sg o up a b c l l2 l3 g nd σ=>by kernel_rfl
theorem cont2:ContRun 2:=λsh sg o up a b c l l2 l3 g nd σ=>by kernel_rfl
theorem cont3:ContRun 3:=λsh sg o up a b c l l2 l3 g nd σ=>by kernel_rfl
theorem cont4:ContRun 4:=λsh sg o up a b c l l2 l3 g nd σ=>by kernel_rfl
noncomputable def subL(k:Nat)(l:List Nd):V:=.lst (l.map λnd=>.abs (.sub k (.node nd))) l.length
noncomputable def descL(l:List Nd):V:=.tup (l.map λnd=>.abs (.desc nd))
noncomputable def DlRun(k:Nat):Prop:=∀(a b c:Nd)(σ:Gs),(ls3 a b c).map (λl=>RUN (ovDn k) (.ref 743) [subL k l,.int (dpt k)] σ)=mapR (λl=>some (descL l,σ)) (ls3 a b c)
theorem dl0:DlRun 0:=λa b c σ=>by kernel_rfl
theorem dl1:DlRun 1:=λa b c σ=>by kernel_rfl
theorem dl2:DlRun 2:=λa b c σ=>by kernel_rfl
theorem dl3:DlRun 3:=λa b c σ=>by kernel_rfl
theorem dl4:DlRun 4:=λa b c σ=>by kernel_rfl
theorem dl5:DlRun 5:=λa b c σ=>by kernel_rfl
theorem f737:findE 737 fns=some e737:=by kernel_rfl
theorem f743:findE 743 fns=some e743:=by kernel_rfl
section
variable {X:Cx} {n k:Nat}
theorem u0n{nd:Nd}(hl:leafOk nd):∃a b c n g,nd∈dLeaf a b c n g:=by
 cases nd with
 |char i c=>exact⟨i,c,0,0,g0,b0m 0 rfl⟩
 |lig i c l r=>
  obtain rfl|rfl:=i0k hl.2.2.1
  ·obtain rfl|rfl:=i0k hl.2.2.2
   ·exact⟨i,c,0,0,g0,b0m 1 rfl⟩
   ·exact⟨i,c,0,0,g0,b0m 2 rfl⟩
  ·obtain rfl|rfl:=i0k hl.2.2.2
   ·exact⟨i,c,0,0,g0,b0m 3 rfl⟩
   ·exact⟨i,c,0,0,g0,b0m 4 rfl⟩
 |mark n=>exact⟨n,0,0,0,g0,b0m 5 rfl⟩
 |spec n=>exact⟨n,0,0,0,g0,b0m 6 rfl⟩
 |write n=>exact⟨n,0,0,0,g0,b0m 7 rfl⟩
 |oout n=>exact⟨n,0,0,0,g0,b0m 8 rfl⟩
 |cout n=>exact⟨n,0,0,0,g0,b0m 9 rfl⟩
 |skip w g=>exact⟨w,0,0,0,g,b0m 10 rfl⟩
 |kern n s=>exact⟨s,0,0,n,g0,b0m 11 rfl⟩
 |pen n=>exact⟨0,0,0,n,g0,b0m 12 rfl⟩
 |edge n on=>
  obtain rfl|rfl:=i0k hl.2.2
  ·exact⟨0,0,0,n,g0,b0m 13 rfl⟩
  ·exact⟨0,0,0,n,g0,b0m 14 rfl⟩
 |rule x y z=>exact⟨0,0,0,0,g0,List.mem_append_right _ (List.mem_map.mpr ⟨(x,y,z),a0f (List.mem_range.mpr hl.1) (a0f (List.mem_range.mpr hl.2.1) (List.mem_range.mpr hl.2.2)),rfl⟩)⟩
 |_=>exact absurd hl id
theorem descLeaf(hK:IsX X){nd:Nd}(hl:leafOk nd){j:Int}(h1: -9≤j)(h2:j≤20)(σ:Gs):FnV X 14 (.ref 737) [.abs (.node nd),.int j] σ (.abs (.desc nd)) σ:=by
 obtain⟨a,b,c,n,g,hm⟩:=u0n hl
 exact((a0g hK (o0w hK) _ _ _ _ _ (a0a (n0k j a b c n g σ) nd hm)).res λf v h=>.abs (d:=.desc nd) trivial h).arg λf vs hv=>by
  cases hv with
  |cons g1 hv=>
  cases hv with
  |cons g2 hv=>
  cases hv
  cases g2 using VR.eInt with
  |int t=>exact .two g1 (.num _ _ h1 h2)
theorem l0g(k:Nat): -9≤dpt k∧dpt k≤20:=by
 show -9≤((6 - k:Nat):Int)∧((6 - k:Nat):Int)≤20
 lia
theorem subNode{f:FH}{k:Nat}{nd:Nd}{v:Value}(h:VR X f v (.abs (.sub k (.node nd)))):WfN k nd∧VR X f v (.abs (.node nd))∧VR X f v (objOf nd):=by
 cases h using VR.eAbs with
 |abs hd h=>exact⟨hd.2,.abs hd.1 h,h⟩
theorem e1p(hK:IsX X):OvOK X 14 (ovDn 0):=k0e λnd σ=>⟨fnCW hK f737,λA f s vs hA S hv=>by
 cases hv with
 |cons g1 hv=>
 have q:=subNode g1
 exact(descLeaf hK (j:=dpt 0) q.1 (l0g 0).1 (l0g 0).2 σ).2 A f s _ hA S (.cons q.2.1 hv)⟩
theorem VRs.subs{f:FH}{j:Nat}:∀{l:List Nd}{vs:List Value},(∀x∈l,WfN j x)->VRs X f vs (l.map λnd=>.abs (.node nd))->VRs X f vs (l.map λnd=>.abs (.sub j (.node nd))):=by
 intro l
 induction l with
 |nil=>exact λx0 h=>h
 |cons x l ih=>
  intro vs hw h
  cases h with
  |cons h1 h2=>exact .cons (Le.sub (d:=.node x) (hw x (.head _)) _ _ _ h1) (ih (λy hy=>hw y (.tail _ hy)) h2)
theorem l0y(hK:IsX X)(h:OvOK X n (ovDn k))(HR:DlRun k):OvOK X (n+7) (ovDl k):=k0e λl σ=>⟨fnCW hK f743,λA f s vs hA S hv=>by
 cases hv with
 |cons g1 hv=>
 cases g1 using VR.eAbs with
 |abs hd hl=>
 have hd2:l.length≤3∧∀x∈l,WfN k x:=hd.2
 obtain⟨a,b,c,hm⟩:=p0m (l:=l) (Nat.lt_succ_of_le hd2.1)
 have F:=(a0g hK h _ _ _ _ _ (a0a (HR a b c σ) l hm)).res λf v h=>.abs (d:=.descs l) trivial h
 refine F.2 A f s _ hA S (.cons ?_ hv)
 have hl:VR X f _ (.lst (l.map λnd=>.abs (.node nd)) l.length):=hl
 cases hl using VR.eLst with
 |lst fv rv hn=>exact .lst fv (rv.subs hd2.2) (by rw[List.length_map];exact Nat.le_refl _)⟩
theorem t0i{k:Nat}{nd:Nd}(hw:WfN (k+1) nd):leafOk nd∨∃sh sg o up a b c l l2 l3 g nd',nd∈dCont sh sg o up a b c l l2 l3 g nd':=by
 cases nd with
 |box kk sh sg o up a b c l=>
  obtain rfl|rfl:=i0k hw.1.1
  ·exact .inr ⟨sh,sg,o,up,a,b,c,l,[],[],g0,.mark 0,b0m 0 rfl⟩
  ·exact .inr ⟨sh,sg,o,up,a,b,c,l,[],[],g0,.mark 0,b0m 1 rfl⟩
 |cell sp m o a b c l=>exact .inr ⟨sp,m,o,0,a,b,c,l,[],[],g0,.mark 0,b0m 2 rfl⟩
 |lead s g l=>exact .inr ⟨s,0,0,0,0,0,0,[],[],[],g,l,b0m 3 rfl⟩
 |disc p q r=>exact .inr ⟨0,0,0,0,0,0,0,p,q,r,g0,.mark 0,b0m 4 rfl⟩
 |adj l=>exact .inr ⟨0,0,0,0,0,0,0,l,[],[],g0,.mark 0,b0m 5 rfl⟩
 |ins num size cost g l=>exact .inr ⟨num,size,0,0,cost,0,0,l,[],[],g,.mark 0,b0m 6 rfl⟩
 |_=>exact .inl hw
theorem o0a(hK:IsX X)(hn:14≤n)(h1:OvOK X n (ovDn k))(h2:OvOK X n (ovDl k))(HR:ContRun k):OvOK X (n+7) (ovDn (k+1)):=k0e λnd σ=>⟨fnCW hK f737,λA f s vs hA S hv=>by
 cases hv with
 |cons g1 hv=>
 have q:=subNode g1
 have hE:OvOK X n (ovDN k):=h1.or (h2.or ((o0w hK).at (Nat.le_trans (by decide) hn)))
 rcases t0i q.1 with hl|⟨sh,sg,o,up,a,b,c,l,l2,l3,g,nd',hm⟩
 ·exact((descLeaf hK (j:=dpt (k+1)) hl (l0g _).1 (l0g _).2 σ).at (Nat.le_trans hn (Nat.le_add_right n 7))).2 A f s _ hA S (.cons q.2.1 hv)
 ·exact((a0g hK hE _ _ _ _ _ (a0a (HR sh sg o up a b c l l2 l3 g nd' σ) nd hm)).res λf v h=>.abs (d:=.desc nd) trivial h).2 A f s _ hA S (.cons (p0n q.1 _ _ _ q.2.2) hv)⟩
theorem a1r(sh sg o up:Nat)(a b c:Int)(l:List Nd)(σ:Gs):(List.range 2).map (λkk=>RUN (ovDN 5) (.ref 737) [objK 5 (.box kk sh sg o up a b c l)] σ)=mapR (λkk=>some (descV (.box kk sh sg o up a b c l),σ)) (List.range 2):=by kernel_rfl
theorem i0j(hK:IsX X){nd:Nd}(hb:isBox nd)(hw:WfN 6 nd)(σ:Gs):FnV X 105 (.ref 737) [.abs (.node nd)] σ (.abs (.desc nd)) σ:=by
 have n0:OvOK X 14 (ovDn 0):=e1p hK
 have l0:OvOK X 21 (ovDl 0):=l0y hK n0 dl0
 have n1:OvOK X 28 (ovDn 1):=o0a hK (by decide) (n0.at (by decide)) l0 cont0
 have l1:OvOK X 35 (ovDl 1):=l0y hK n1 dl1
 have n2:OvOK X 42 (ovDn 2):=o0a hK (by decide) (n1.at (by decide)) l1 cont1
 have l2:OvOK X 49 (ovDl 2):=l0y hK n2 dl2
 have n3:OvOK X 56 (ovDn 3):=o0a hK (by decide) (n2.at (by decide)) l2 cont2
 have l3:OvOK X 63 (ovDl 3):=l0y hK n3 dl3
 have n4:OvOK X 70 (ovDn 4):=o0a hK (by decide) (n3.at (by decide)) l3 cont3
 have l4:OvOK X 77 (ovDl 4):=l0y hK n4 dl4
 have n5:OvOK X 84 (ovDn 5):=o0a hK (by decide) (n4.at (by decide)) l4 cont4
 have l5:OvOK X 91 (ovDl 5):=l0y hK n5 dl5
 have hE:OvOK X 91 (ovDN 5):=(n5.at (by decide)).or (l5.or ((o0w hK).at (by decide)))
 cases nd with
 |box kk sh sg o up a b c l=>
  have F:=((a0g hK hE _ _ _ _ _ (a0a (a1r sh sg o up a b c l σ) kk (List.mem_range.mpr hw.1.1))).res λf v h=>.abs (d:=.desc (.box kk sh sg o up a b c l)) trivial h)
  refine(F.arg λf vs hv=> ?_).at (by decide)
  obtain⟨v,rfl,g1⟩:=hv.one'
  cases g1 using VR.eAbs with
  |abs k h=>exact .one (p0n hw _ _ _ h)
 |_=>exact absurd hb id
end
structure FoC(ds:List Dr)(p q:P2)(c:Nat):Prop where
 fo:Fo ds p q
 le:q.2≤p.2+c
theorem FoC.nil(p:P2):FoC [] p p 0:=⟨.nil p,Nat.le_refl _⟩
theorem FoC.v{k c:Nat}{r:List Dr}{p q:P2}(h:FoC r (next p k) q c):FoC (.v k (draw p k)::r) p q (c+1):=⟨.v h.fo,by
 have:=h.le
 rw[show(next p k).2=p.2+1 from rfl] at this
 lia⟩
theorem FoC.w{k c w:Nat}{r:List Dr}{p q:P2}(hw:draw p k=w)(h:FoC r (next p k) q c):FoC (.v k w::r) p q (c+1):=by subst hw;exact .v h
theorem FoC.one{d:Dr}{l:List Dr}{c:Nat}{p q:P2}(e:Exp d l)(h:FoC l p q c):FoC [d] p q c:=⟨.exp e h.fo (.nil q),h.le⟩
theorem FoC.app{a b:List Dr}{c d:Nat}{p q t:P2}(h:FoC a p q c)(k:FoC b q t d):FoC (a++b) p t (d+c):=⟨h.fo.append k.fo,by have:=h.le;have:=k.le;lia⟩
theorem FoC.up{ds:List Dr}{p q:P2}{c d:Nat}(h:FoC ds p q c)(hc:c≤d):FoC ds p q d:=⟨h.fo,Nat.le_trans h.le (Nat.add_le_add_left hc _)⟩
noncomputable def Any{α:Type}(g:α->Dr)(c:Nat):Prop:=∀p:P2,∃x q,FoC [g x] p q c
theorem c0y:Any .n 1:=λp=>⟨_,_,.n (.nil _),Nat.le_refl _⟩
theorem l0q{α:Type}{g:α->Dr}{c:Nat}(h:Any g c)(n:Nat):∀(p:P2),∃(l:List α)(q:P2),l.length=n∧FoC (l.map g) p q (c * n):=by
 induction n with
 |zero=>exact λp=>⟨[],p,rfl,.nil p⟩
 |succ n ih=>
  intro p
  obtain⟨x,q,h1⟩:=h p
  obtain⟨l,t,e,h3⟩:=ih q
  exact⟨x::l,t,congrArg Nat.succ e,h1.app h3⟩
theorem h0o(u:Wd):Any (.flow u) 5:=λp=>by
 obtain⟨w,q,h1⟩:=c0y p
 exact⟨⟨w,_,_,_,_⟩,_,.one (.flow u ⟨w,_,_,_,_⟩) (h1.app (.v (.v (.v (.v (.nil _))))))⟩
theorem e0f:Any .letter 5:=λp=>by
 by_cases h:draw (next (next p 2) 6) 3=0
 ·exact⟨.lig _ _ _ _,_,.one (.lig _ _ _ _) (.v (.v (.w h (.v (.v (.nil _))))))⟩
 ·exact⟨.char _ _,_,.up (.one (.char _ _ _ (Nat.pos_of_ne_zero h)) (.v (.v (.v (.nil _))))) (by decide)⟩
theorem s0x:Any .done 2:=λp=>by
 have h:=c0e p (k:=5) (by decide)
 generalize e:draw p 5=w at h
 match w,h with
 |0,_=>exact⟨_,_,.one (.mark _) (.w e (.v (.nil _)))⟩
 |1,_=>exact⟨_,_,.one (.spec _) (.w e (.v (.nil _)))⟩
 |2,_=>exact⟨_,_,.one (.write _) (.w e (.v (.nil _)))⟩
 |3,_=>exact⟨_,_,.one (.oout _) (.w e (.v (.nil _)))⟩
 |4,_=>exact⟨_,_,.one (.cout _) (.w e (.v (.nil _)))⟩
theorem k0y:Any .rule 3:=λp=>⟨_,_,.one (.rule _ _ _) (.v (.v (.v (.nil _))))⟩
theorem u0p:Any (.small 0) 2:=λp=>by
 obtain⟨n,q,h1⟩:=c0y p
 exact⟨_,_,.one (.kern n _) (h1.app (.v (.nil _)))⟩
theorem a1o:Any (.small 1) 2:=λp=>by
 obtain⟨n,q,h1⟩:=c0y p
 exact⟨_,_,.one (.pen n _) (h1.app (.v (.nil _)))⟩
theorem t0d:Any (.small 2) 2:=λp=>by
 obtain⟨n,q,h1⟩:=c0y p
 exact⟨_,_,.one (.edge n _) (h1.app (.v (.nil _)))⟩
theorem k0q{c deep most:Nat}(hp:Any (.part deep) c):Any (.list deep most) (c * most+1):=λp=>by
 obtain⟨l,q,e,h1⟩:=l0q hp (draw p (most+1)) (next p (most+1))
 exact⟨l,q,.up (.one (.list deep most l) (.w e.symm h1)) (Nat.succ_le_succ (Nat.mul_le_mul_left c (Nat.le_of_lt_succ (c0e p (Nat.succ_pos most)))))⟩
theorem j0d(p:P2):∃a b e q,FoC [.sizes a b e] p q 3:=by
 obtain⟨a,q1,a1⟩:=c0y p
 obtain⟨b,q2,b1⟩:=c0y q1
 obtain⟨e,q3,e1⟩:=c0y q2
 exact⟨a,b,e,q3,.one (.sizes a b e) (a1.app (b1.app e1))⟩
theorem k0i{c deep:Nat}(hp:Any (.part deep) c):Any (.box deep) (8+(c * 3+1)):=λp=>by
 obtain⟨l,q,h1⟩:=k0q (most:=3) hp p
 obtain⟨a,b,e,q3,hs⟩:=j0d q
 exact⟨_,_,.one (.box deep _ _ _ _ _ a b e l) (h1.app (hs.app (.v (.v (.v (.v (.v (.nil _))))))))⟩
theorem u0e{c deep:Nat}(hp:Any (.part deep) c):Any (.cell deep) (6+(c * 2+1)):=λp=>by
 obtain⟨l,q,h1⟩:=k0q (most:=2) hp p
 obtain⟨a,b,e,q3,hs⟩:=j0d q
 exact⟨_,_,.one (.cell deep _ _ _ a b e l) (h1.app (hs.app (.v (.v (.v (.nil _))))))⟩
theorem u0v{c deep:Nat}(hb:Any (.box deep) c)(hc:3≤c):Any (.skip (deep+1)) (c+7):=λp=>by
 have h10:10≤c+7:=Nat.add_le_add_right hc 7
 by_cases h0:draw p 8<6
 ·obtain⟨g,q,h1⟩:=h0o (skipUnit (draw p 8)) (next p 8)
  exact⟨_,_,.up (.one (.skip (deep+1) _ g h0) (.v h1)) (Nat.le_trans (by decide) h10)⟩
 obtain⟨g,q,h1⟩:=h0o [] (next p 8)
 by_cases h6:draw p 8=6
 ·obtain⟨l,t,b1⟩:=hb (next q 3)
  exact⟨_,_,.one (.leadB deep _ g l) (.w h6 (h1.app (.v b1)))⟩
 ·obtain⟨l,t,b1⟩:=k0y (next q 3)
  have h:=c0e p (k:=8) (by decide)
  exact⟨_,_,.up (.one (.leadR (deep+1) _ g l) (.w (show draw p 8=7 by lia) (h1.app (.v b1)))) h10⟩
theorem f0q(p:P2):∃(l:List Nd)(q:P2),FoC (.v 3 l.length::l.map Dr.letter) p q 11:=by
 obtain⟨l,q,e,h1⟩:=l0q e0f (draw p 3) (next p 3)
 exact⟨l,q,.up (.w e.symm h1) (Nat.succ_le_succ (Nat.mul_le_mul_left 5 (Nat.le_of_lt_succ (c0e p (by decide)))))⟩
theorem h0p{deep:Nat}{p:P2}(h:(deep=0∧9≤draw p 16∧draw p 16<13)∨draw p 16=12):∃nd q,FoC [.part deep nd] p q 34:=by
 obtain⟨a,q1,a1⟩:=f0q (next p 16)
 obtain⟨b,q2,b1⟩:=f0q q1
 obtain⟨c,q3,c1⟩:=f0q q2
 exact⟨.disc a b c,q3,.one (.pdisc deep _ a b c h) (.v (a1.app (b1.app c1)))⟩
theorem j0a{deep:Nat}{p:P2}(w:Nat)(e:draw p 16=w+3)(h:w<6):∃nd q,FoC [.part deep nd] p q 6:=by
 match w,h with
 |0,_=>
  obtain⟨x,q,h1⟩:=e0f (next p 16)
  exact⟨x,q,.one (.pletter deep 3 x (.inr rfl)) (.w e h1)⟩
 |1,_=>
  obtain⟨x,q,h1⟩:=u0p (next p 16)
  exact⟨x,q,.up (.one (.pkern deep x) (.w e h1)) (by decide)⟩
 |2,_=>
  obtain⟨x,q,h1⟩:=a1o (next p 16)
  exact⟨x,q,.up (.one (.ppen deep x) (.w e h1)) (by decide)⟩
 |3,_=>
  obtain⟨x,q,h1⟩:=k0y (next p 16)
  exact⟨x,q,.up (.one (.prule deep x) (.w e h1)) (by decide)⟩
 |4,_=>
  obtain⟨x,q,h1⟩:=s0x (next p 16)
  exact⟨x,q,.up (.one (.pdone deep x) (.w e h1)) (by decide)⟩
 |5,_=>
  obtain⟨x,q,h1⟩:=t0d (next p 16)
  exact⟨x,q,.up (.one (.pedge deep x) (.w e h1)) (by decide)⟩
theorem h0f{p:P2}:∃(g:Glu)(num size:Nat)(cost:Int)(q:P2),FoC [.flow [] g,.v 200 num,.v 9 size,.n cost] p q 8:=by
 obtain⟨g,q,h1⟩:=h0o [] p
 obtain⟨n,q2,h3⟩:=c0y (next (next q 200) 9)
 exact⟨g,_,_,n,q2,h1.app (.v (.v h3))⟩
theorem sixteen{w:Nat}(h:w<16):w<3∨(∃v,w=v+3∧v<6)∨(9≤w∧w<12)∨w=12∨w=13∨w=14∨w=15:=by
 by_cases h3:w<3
 ·exact .inl h3
 by_cases h9:w<9
 ·exact .inr (.inl ⟨w - 3,by lia,by lia⟩)
 ·lia
theorem p0i:Any (.part 0) 40:=λp=>by
 rcases sixteen (c0e p (k:=16) (by decide)) with h|⟨v,e,h⟩|h|h|h|h|h
 ·obtain⟨x,q,h1⟩:=e0f (next p 16)
  exact⟨x,q,.up (.one (.pletter 0 _ x (.inl ⟨rfl,Nat.lt_succ_of_lt h⟩)) (.v h1)) (by decide)⟩
 ·obtain⟨x,q,h1⟩:=j0a (deep:=0) v e h
  exact⟨x,q,h1.up (by decide)⟩
 ·obtain⟨x,q,h1⟩:=h0p (deep:=0) (p:=p) (.inl ⟨rfl,h.1,Nat.lt_succ_of_lt h.2⟩)
  exact⟨x,q,h1.up (by decide)⟩
 ·obtain⟨x,q,h1⟩:=h0p (deep:=0) (p:=p) (.inr h)
  exact⟨x,q,h1.up (by decide)⟩
 ·exact⟨_,_,.up (.one .padj0 (.w h (.nil _))) (by decide)⟩
 ·obtain⟨g,num,size,cost,q,h1⟩:=h0f (p:=next p 16)
  exact⟨_,q,.up (.one (.pins0 _ num size cost g (.inl h)) (.v h1)) (by decide)⟩
 ·obtain⟨g,num,size,cost,q,h1⟩:=h0f (p:=next p 16)
  exact⟨_,q,.up (.one (.pins0 _ num size cost g (.inr h)) (.v h1)) (by decide)⟩
theorem i0e{c d deep:Nat}(hp:Any (.part deep) c)(hd:34≤d∧8+(c * 3+1)+7+1≤d∧c * 2+1+1≤d∧8+(c * 2+1)+1≤d):Any (.part (deep+1)) d:=λp=>by
 rcases sixteen (c0e p (k:=16) (by decide)) with h|⟨v,e,h⟩|h|h|h|h|h
 ·obtain⟨x,q,h1⟩:=k0i hp (next p 16)
  exact⟨x,q,.up (.one (.pbox deep _ x h) (.v h1)) (Nat.le_trans (Nat.succ_le_succ (Nat.le_add_right _ 7)) hd.2.1)⟩
 ·obtain⟨x,q,h1⟩:=j0a (deep:=deep+1) v e h
  exact⟨x,q,h1.up (Nat.le_trans (by decide) hd.1)⟩
 ·obtain⟨x,q,h1⟩:=u0v (k0i hp) (Nat.le_trans (by decide:3≤8) (Nat.le_add_right 8 _)) (next p 16)
  exact⟨x,q,.up (.one (.pskip deep _ x h) (.v h1)) hd.2.1⟩
 ·obtain⟨x,q,h1⟩:=h0p (deep:=deep+1) (p:=p) (.inr h)
  exact⟨x,q,h1.up hd.1⟩
 ·obtain⟨x,q,h1⟩:=k0q (most:=2) hp (next p 16)
  exact⟨_,q,.up (.one (.padj deep x) (.w h h1)) hd.2.2.1⟩
 ·obtain⟨x,q,h1⟩:=k0q (most:=2) hp (next p 16)
  obtain⟨g,num,size,cost,q2,h3⟩:=h0f (p:=q)
  exact⟨_,q2,.up (.one (.pins deep num size cost g x) (.w h (h1.app h3))) hd.2.2.2⟩
 ·obtain⟨x,q,h1⟩:=u0e hp (next p 16)
  exact⟨_,q,.up (.one (.pcell deep x) (.w h h1)) (Nat.le_trans (Nat.succ_le_succ (Nat.add_le_add_right (by decide) _)) hd.2.2.2)⟩
theorem b1f:Any (.box 2) (8+(700 * 3+1)):=k0i (i0e (i0e (d:=180) p0i (by decide)) (by decide))
theorem n0w(p:P2)(hp:p.2=0):∃nd d b q,Fo [.box 2 nd,.v 5 d,.v 4 b] p q∧q.2<1048576:=by
 obtain⟨nd,q,h1⟩:=b1f p
 have z:=h1.app (.v (k:=5) (.v (k:=4) (.nil _)))
 exact⟨nd,_,_,_,z.fo,Nat.lt_of_le_of_lt z.le (by rw[hp];decide)⟩
noncomputable def gOf(a b c:Addr):Nat->Addr
 |0=>a
 |1=>b
 |_=>c
noncomputable abbrev onX(X:Cx)(a b c:Addr):Cx:=⟨X.P,X.w,X.K,gOf a b c,3,X.lp⟩
noncomputable abbrev em0:Obj:={cls:=.type "dict",data:=.dict #[]}
theorem VRd.step{X Y:Cx}{f g:FH}{es:List DictEntry}{k:Str}{y z:V}{l l':List (Str × V)}(h:VRd X f es ((k,y)::l))(H1:∀v,VR X f v y->VR Y g v z)(H2:∀r,VRd X f r l->VRd Y g r l'):VRd Y g es ((k,z)::l'):=by
 cases h with
 |cons a b c=>exact .cons a (H1 _ b) (H2 _ c)
theorem VRd.none{X Y:Cx}{f g:FH}{es:List DictEntry}(h:VRd X f es []):VRd Y g es []:=by
 cases h;exact .nil
theorem v0e{X Y:Cx}{f g:FH}{es:List DictEntry}{D1 L:Addr}(h:VRd X f es [("most",.int 1048576),("numbers",.con (.ref D1)),("texts",.con (.ref L))])(e1:Y.g 1=D1)(e2:Y.g 2=L)(hn:2<Y.n):VRd Y g es [("most",.int 1048576),("numbers",.gl 1),("texts",.gl 2)]:=
 h.step (λv q=>q.inv.elim λt e=>e▸.int _ t) λr h=>h.step (λv q=>(show v=_ from q.inv)▸e1▸.gl 1 (Nat.lt_of_succ_lt hn)) λr h=>h.step (λv q=>(show v=_ from q.inv)▸e2▸.gl 2 hn) λr h=>h.none
theorem all3{P:Nat->Prop}(h1:P 0)(h2:P 1)(h3:P 2)(j:Nat):j<3->P j:=
 Nat.casesOn (motive:=λj=>j<3->P j) j (λx0=>h1) λj=>Nat.casesOn (motive:=λj=>j+1<3->P (j+1)) j (λx0=>h2) λj=>Nat.casesOn (motive:=λj=>j+1+1<3->P (j+1+1)) j (λx0=>h3) λj hj=>absurd hj (Nat.not_lt_of_le (Nat.le_add_left 3 j))
theorem G_on{X:Cx}{a b c z:Addr}{P:Addr->Prop}(h1:P a)(h2:P b)(h3:P c)(h:(onX X a b c).G z):P z:=
 h.elim λj q=>q.2▸all3 (P:=λj=>P (gOf a b c j)) h1 h2 h3 j q.1
noncomputable def Sw(X0:Cx)(env:Env)(B:Bs)(f:FH)(h:Heap)(m cm:Str->Option Value)(ha D1 L N:Nat):Prop:=∃f',f.le f'∧Rel (onX X0 ha D1 L) env ⟨B.f₀,B.h₀,[],none⟩ f' h [("names",.abs .names),("heap",.gl 0)] none m cm∧
   ∀(ds:List Dr)(e:P2)(nb:Bool),Fo ds (N,0) e->e.2<1048576->St (onX X0 ha D1 L) f' ⟨ds,e,nb,2⟩ h
theorem switch{X0:Cx}{env:Env}{B:Bs}{f:FH}{h:Heap}{vars:Vars}{m cm:Str->Option Value}{σ:Gs}{a d D1 L ha N k kh:Nat}{t u:Tok}{es:List DictEntry}(C:Cz X0 env B)(R:Rel X0 env B f h vars none m cm)(S:St X0 f σ h)(h0:X0.n=0)
  (p1:(a,instObj 819 d)∈B.pins)(p2:(d,({cls:=.type "dict",data:=.dict (List.toArray es) k}:Obj))∈B.pins)(p3:(D1,em0)∈B.pins)(p4:(L,listOf #[] 0)∈B.pins)(p5:(ha,listOf (List.toArray [Value.int (Int.ofNat N) t,.int 0 u]) kh)∈B.pins)
  (ne:a≠d)(n12:D1≠L)(a1:D1≠a)(a2:L≠a)(b1:D1≠d)(b2:L≠d)(hh:a≠ha∧d≠ha∧D1≠ha∧L≠ha)(hD:(D1==sysModules)=false)(he:VRd X0 f es [("most",.int 1048576),("numbers",.con (.ref D1)),("texts",.con (.ref L))])(v1:valOf env m cm "names"=some (.ref a))(v2:valOf env m cm "heap"=some (.ref ha)):Sw X0 env B f h m cm ha D1 L N:=by
 have q1:=R.pin _ p1
 have q2:=R.pin _ p2
 have q3:=R.pin _ p3
 have q4:=R.pin _ p4
 have q5:=R.pin _ p5
 have l1:f.le (f.put d _):=FH.put_le'' (o:={cls:=.type "dict",data:=.dict (List.toArray es) k}) q2.2.2.2
 have fa:f.put d {cls:=.type "dict",data:=.dict (List.toArray es) k} a=none:=(if_neg ne).trans q1.2.2.2
 have l2:=FH.put_le'' (o:=instObj 819 d) fa
 have lf:=l1.trans l2
 have ot:∀{b},b≠a->b≠d->(f.put d {cls:=.type "dict",data:=.dict (List.toArray es) k}).put a (instObj 819 d) b=f b:=λu v=>(if_neg u).trans (if_neg v)
 have sa:=FH.put_self (f.put d {cls:=.type "dict",data:=.dict (List.toArray es) k}) a (instObj 819 d)
 have sd:=l2 _ _ (FH.put_self f d {cls:=.type "dict",data:=.dict (List.toArray es) k})
 generalize(f.put d {cls:=.type "dict",data:=.dict (List.toArray es) k}).put a (instObj 819 d)=f2 at lf ot sa sd
 clear l1 l2 fa
 have gp:∀b,(onX X0 ha D1 L).G b->f2 b=none:=λb=>G_on (P:=λb=>f2 b=none)
  ((ot hh.1.symm hh.2.1.symm).trans q5.2.2.2) ((ot a1 b1).trans q3.2.2.2) ((ot a2 b2).trans q4.2.2.2)
 have gno:∀{b o},f2 b=some o->¬(onX X0 ha D1 L).G b:=λq hg=>Option.some_ne_none _ (q.symm.trans (gp _ hg))
 have nG0:∀b,¬X0.G b:=λb hg=>hg.elim λj q=>Nat.not_lt_zero _ (h0▸q.1)
 have fresh:∀b,Fresh X0 B f b->Fresh (onX X0 ha D1 L) ⟨B.f₀,B.h₀,[],none⟩ f2 b:=λb F=>⟨F.at0,G_on (P:=λz=>z=b->False) (F.pin _ p5) (F.pin _ p3) (F.pin _ p4) |> λH hg=>H hg rfl,(ot (λq=>F.pin _ p1 q.symm) λq=>F.pin _ p2 q.symm).trans F.off,a0u⟩
 refine⟨f2,lf,⟨⟨λb o q x0=>R.kp.keep b o q (nG0 b),R.kp.le.trans lf,λb o q=> ?_⟩,λx0 q=>absurd q.symm (Option.some_ne_none _),a0u,⟨R.fm.ns,fresh _ R.fm.lo,R.fm.cell,R.fm.apart,λx c q=>⟨fresh c (R.fm.above x c q).1,(R.fm.above x c q).2⟩⟩,λx y q=> ?_,λx0 x0 q=>absurd q.symm (Option.some_ne_none _)⟩,λds e nb hf hb=>⟨λb o q=>lf _ _ (S.base b o q),λb o q=> ?_,⟨⟨(N,0),t,u,λx0=>⟨_,q5.1,rfl,kh,rfl⟩,hf⟩,all3 ⟨_,q5.1⟩ ⟨_,q3.1⟩ ⟨_,q4.1⟩,?_,hb,?_⟩,gp,S.nolim⟩⟩
 ·by_cases z1:b=a
  ·exact .inr ⟨z1▸q1.2.2.1,gno q⟩
  by_cases z2:b=d
  ·exact .inr ⟨z2▸q2.2.2.1,gno q⟩
  exact(R.kp.new b o ((ot z1 z2).symm.trans q)).imp id λz=>⟨z.1,gno q⟩
 ·exact a0m (P:=λp:Str × V=>∃v,valOf env m cm p.1=some v∧VR (onX X0 ha D1 L) f2 v p.2) ⟨_,v1,show VR (onX X0 ha D1 L) f2 (.ref a) (.abs .names) from .abs trivial (.obj (d:=d) (es:=es) (n:=k) sa sd (v0e he rfl rfl (Nat.le_refl 3)))⟩ (a0m ⟨_,v2,.gl (X:=onX X0 ha D1 L) 0 (Nat.le_add_left 1 2)⟩ a0u) (x,y) (c0u q)
 ·by_cases z1:b=a
  ·rw[z1] at q ⊢;exact Option.some.inj (sa.symm.trans q)▸q1.1
  by_cases z2:b=d
  ·rw[z2] at q ⊢;exact Option.some.inj (sd.symm.trans q)▸q2.1
  exact S.isIn _ _ ((ot z1 z2).symm.trans q)
 ·exact C.stat.elim λo ho=>all3 (P:=λj=>gOf ha D1 L j≠cStatics) (λq=>Option.some_ne_none _ (ho.symm.trans (q▸q5.2.2.1))) (λq=>Option.some_ne_none _ (ho.symm.trans (q▸q3.2.2.1))) (λq=>Option.some_ne_none _ (ho.symm.trans (q▸q4.2.2.1)))
 ·intro DD TT hm
  cases hm
  exact⟨⟨hh.2.2.1.symm,hh.2.2.2.symm,n12,Nat.le_refl 3⟩,⟨[],⟨_,#[],0,q3.1,⟨rfl,rfl,rfl⟩,rfl,λe he=>absurd he (Array.not_mem_empty e),.nil,.nil⟩,hD,.nil⟩,[],0,q4.1,.nil⟩
section
variable {X:Cx} {env:Env} {B:Bs} {f f':FH} {h h':Heap} {vars:Vars} {m cm:Str->Option Value} {n:Nat}
theorem Rel.pinNews(R:Rel X env B f h vars none m cm)(K:Kp X f h f' h')(L:List (Addr × Obj))(N:∀p∈L,New X f' h p.1∧h'.get? p.1=some p.2):Rel X env {B with pins:=L++B.pins} f' h' vars none m cm:=by
 have R':=R.kp' K
 have O:=λp hp=>R.newOwn (N p hp).1
 refine⟨R'.kp,R'.me,λp hp=> ?_,⟨R'.fm.ns,⟨R'.fm.lo.at0,R'.fm.lo.ng,R'.fm.lo.off,λp hp=> ?_⟩,R'.fm.cell,R'.fm.apart,λx c e=> ?_⟩,R'.vars,λx o e=>(nomatch e)⟩
 ·rcases List.mem_append.mp hp with hp|hp
  ·exact⟨(N p hp).2,(N p hp).1.2.1,(O p hp).1.at0,(N p hp).1.2.2⟩
  ·exact R'.pin p hp
 ·rcases List.mem_append.mp hp with hp|hp
  ·exact(O p hp).2.1
  ·exact R'.fm.lo.pin p hp
 ·obtain⟨a,b⟩:=R'.fm.above x c e
  refine⟨⟨a.at0,a.ng,a.off,λp hp=> ?_⟩,b⟩
  rcases List.mem_append.mp hp with hp|hp
  ·exact λq=>(O p hp).2.2 (x,c) e q.symm
  ·exact a.pin p hp
end
noncomputable def ovFontP:∀g xs σ,OvR IsX 8 g xs σ:=λg xs σ=>match g,xs with
 | .ref a,[.int i,.lst [] 0]=>.at 1223 λha=>.onF (ieq i 1) (λh=>.ok (.abs (.font 0)) σ λX hK=>.re ha (by rw[a0j h];exact(r0q hK σ).1)) λx0=>.onT (ieq i 2) λh=>.ok (.abs (.font 1)) σ λX hK=>.re ha (by rw[a0j h];exact(r0q hK σ).2)
 |_,_=>.no
noncomputable def ovFont:Ov:=ovOf ovFontP
theorem r0i{X:Cx}(hK:IsX X):OvOK X 8 ovFont:=b0c hK
noncomputable def ovMain:Ov:=orOv ovG (orOv ovFont (orOv ovT (ovBoxC 2)))
theorem p0h{X:Cx}(hK:IsX X):OvOK X 109 ovMain:=(o0x.at (by decide)).or (((r0i hK).at (by decide)).or (((b0y hK).at (by decide)).or (tower hK)))
noncomputable abbrev KLaw:Kx:=lvl ecT fns mks ovMain 80 6
theorem a1i{X:Cx}(hK:IsX X):KxOK X 115 KLaw:=b0z (m:=109) (a0y hK) 6 (p0h hK)
noncomputable abbrev RLaw:RcS:=evS KLaw [] d1342.sc 80
@[irreducible] noncomputable def lwA:List Stmt:=(d1342.body.drop 2).take 2
@[irreducible] noncomputable def lwB:List Stmt:=(d1342.body.drop 4).take 1
@[irreducible] noncomputable def lwC:List Stmt:=(d1342.body.drop 5).take 1
noncomputable def Vm0:Vars:=[("names",.abs .names),("heap",.gl 0)]
noncomputable def toolsV:V:=.tup [.lst [.tup [.abs (.font 0),.str (wS "fa")],.tup [.abs (.font 1),.str (wS "big")]] 2,.abs .names]
noncomputable def Vm1:Vars:=("tools",.abs .tools)::Vm0
noncomputable def Vm2(nd:Nd):Vars:=("whole_one",.abs (.part nd))::Vm1
noncomputable def depthOf:Nat->Nat
 |0=>2
 |1=>1
 |2=>9
 |3=>0
 |_=>3
noncomputable def breadthOf:Nat->Nat
 |0=>9
 |1=>1
 |2=>2
 |_=>3
noncomputable def Vm3(nd:Nd)(d b:Nat):Vars:=("depth",nat (depthOf d))::("breadth",nat (breadthOf b))::Vm2 nd
theorem lw_a(r:List Dr)(e:P2):evSs RLaw lwA ⟨Vm0,none,⟨r,e,false,2⟩⟩=some (.next,⟨("tools",toolsV)::Vm0,none,⟨r,e,false,0⟩⟩):=by kernel_rfl
theorem lw_b(nd:Nd)(r:List Dr)(e:P2)(nb:Bool):evSs RLaw lwB ⟨Vm1,none,⟨.box 2 nd::r,e,nb,0⟩⟩=some (.next,⟨Vm2 nd,none,⟨r,e,orB nb (dn nd),0⟩⟩):=by kernel_rfl
theorem lw_c(nd:Nd)(e:P2)(nb:Bool):(prd (List.range 5) (List.range 4)).map (λp=>evSs RLaw lwC ⟨Vm2 nd,none,⟨[.v 5 p.1,.v 4 p.2],e,nb,0⟩⟩)=mapR (λp=>some (.next,⟨Vm3 nd p.1 p.2,none,⟨[],e,nb,0⟩⟩)) (prd (List.range 5) (List.range 4)):=by kernel_rfl
noncomputable def lw7E:Expr:=(Expr.Name ("described") ⟨866,13,866,22⟩).Call [(Expr.Name ("whole_one") ⟨866,23,866,32⟩).Subscript (Expr.Constant (Const.int 0) 0 ⟨866,33,866,34⟩) ⟨866,23,866,35⟩] [] ⟨866,13,866,36⟩
noncomputable def lwS7:Stmt:=.Assign [Expr.Name ("as_was") ⟨866,4,866,10⟩] lw7E ⟨866,4,866,36⟩
@[irreducible] noncomputable def bigE:Expr:=Expr.Dict [some (Expr.Constant (Const.int 2) 0 ⟨867,32,867,33⟩)] [Expr.Constant (Const.str ("big")) 0 ⟨867,35,867,40⟩] ⟨867,31,867,41⟩
noncomputable def lwBox:Expr:=(Expr.Name ("box_lines") ⟨867,7,867,16⟩).Call [(Expr.Name ("whole_one") ⟨867,17,867,26⟩).Subscript (Expr.Constant (Const.int 0) 0 ⟨867,27,867,28⟩) ⟨867,17,867,29⟩,
 bigE,Expr.Name ("depth") ⟨867,43,867,48⟩,Expr.Name ("breadth") ⟨867,50,867,57⟩,Expr.Name ("names") ⟨867,59,867,64⟩] [] ⟨867,7,867,65⟩
noncomputable def lwRows:Expr:=(Expr.Name ("_law_rows") ⟨867,69,867,78⟩).Call [Expr.List [Expr.Name ("whole_one") ⟨867,80,867,89⟩] ⟨867,79,867,90⟩,Expr.Constant (Const.str ("")) 0 ⟨867,92,867,94⟩,Expr.Name ("depth") ⟨867,96,867,101⟩,Expr.Name ("breadth") ⟨867,103,867,110⟩] [] ⟨867,69,867,111⟩
noncomputable def lwC1:Expr:=lwBox.Compare [CmpOp.NotEq] [lwRows] ⟨867,7,867,111⟩
noncomputable def lwD2:Expr:=(Expr.Name ("described") ⟨867,115,867,124⟩).Call [(Expr.Name ("whole_one") ⟨867,125,867,134⟩).Subscript (Expr.Constant (Const.int 0) 0 ⟨867,135,867,136⟩) ⟨867,125,867,137⟩] [] ⟨867,115,867,138⟩
noncomputable def lwC2:Expr:=lwD2.Compare [CmpOp.NotEq] [Expr.Name ("as_was") ⟨867,142,867,148⟩] ⟨867,115,867,148⟩
noncomputable def lwRet:Stmt:=Stmt.Return (some (Expr.Constant (Const.bool false) 0 ⟨868,15,868,20⟩)) ⟨868,8,868,20⟩
noncomputable def lwS8:Stmt:=.If (Expr.BoolOp BoolOp.Or [lwC1,lwC2] ⟨867,7,867,148⟩) [lwRet] [] ⟨867,4,868,20⟩
noncomputable def lwHeap:Expr:=(Expr.Name ("_law_heap") ⟨860,11,860,20⟩).Call [Expr.Name ("script") ⟨860,21,860,27⟩] [] ⟨860,11,860,28⟩
noncomputable def lwS1:Stmt:=.Assign [Expr.Name ("heap") ⟨860,4,860,8⟩] lwHeap ⟨860,4,860,28⟩
noncomputable def lwNames:Expr:=(Expr.Name ("Names") ⟨861,12,861,17⟩).Call [] [] ⟨861,12,861,19⟩
noncomputable def lwS2:Stmt:=.Assign [Expr.Name ("names") ⟨861,4,861,9⟩] lwNames ⟨861,4,861,19⟩
theorem body1342:d1342.body=lwS1::lwS2::(lwA++(lwB++(lwC++[lwS7,lwS8,lawTry]))):=by kernel_rfl
theorem f1342:findE 1342 fns=some e1342:=by kernel_rfl
noncomputable def Vm4(nd:Nd)(d b:Nat):Vars:=("as_was",.abs (.desc nd))::Vm3 nd d b
section
variable (nd:Nd) (d b:Nat)
theorem m4_k:look "whole_one" (Vm4 nd d b)=some (.abs (.part nd))∧look "depth" (Vm4 nd d b)=some (nat (depthOf d))∧look "breadth" (Vm4 nd d b)=some (nat (breadthOf b))∧look "names" (Vm4 nd d b)=some (.abs .names)∧look "as_was" (Vm4 nd d b)=some (.abs (.desc nd)):=⟨by kernel_rfl,by kernel_rfl,by kernel_rfl,by kernel_rfl,by kernel_rfl⟩
theorem m3_k:look "whole_one" (Vm3 nd d b)=some (.abs (.part nd)):=by kernel_rfl
end
theorem lw_g:kindG d1342.sc "box_lines"=true∧kindG d1342.sc "described"=true∧kindG d1342.sc "_law_rows"=true∧kindG d1342.sc "_law_heap"=true∧kindG d1342.sc "Names"=true:=⟨by kernel_rfl,by kernel_rfl,by kernel_rfl,by kernel_rfl,by kernel_rfl⟩
theorem lw_t:look "box_lines" KP.GT=some (.con (.ref 1053))∧look "described" KP.GT=some (.con (.ref 737))∧look "_law_rows" KP.GT=some (.con (.ref 1335))∧look "_law_heap" KP.GT=some (.con (.ref 1244))∧look "Names" KP.GT=some (.con (.ref 819)):=⟨by kernel_rfl,by kernel_rfl,by kernel_rfl,by kernel_rfl,by kernel_rfl⟩
theorem z0f:kindOk d1342.sc "as_was"=true∧pureOf (swapsWith lw7E (some (.Name ("as_was") ⟨866,4,866,10⟩)) 866 (dum d1342.sc))=some false∧seq "as_was" "self"=false:=⟨by kernel_rfl,by kernel_rfl,by kernel_rfl⟩
theorem a1y:kindOk d1342.sc "heap"=true∧pureOf (swapsWith lwHeap (some (.Name ("heap") ⟨860,4,860,8⟩)) 860 (dum d1342.sc))=some false∧seq "heap" "self"=false:=⟨by kernel_rfl,by kernel_rfl,by kernel_rfl⟩
theorem x0t:kindOk d1342.sc "names"=true∧pureOf (swapsWith lwNames (some (.Name ("names") ⟨861,4,861,9⟩)) 861 (dum d1342.sc))=some false∧seq "names" "self"=false:=⟨by kernel_rfl,by kernel_rfl,by kernel_rfl⟩
theorem l0s(d:Nat):depthOf d∈depths:=by
 unfold depthOf
 split<;>decide
theorem m0h(d:Nat):breadthOf d∈breadths:=by
 unfold breadthOf
 split<;>decide
section
variable {X:Cx} {A:Around} {n:Nat} {env:Env} {B:Bs} {s:Shared} {f:FH} {σ σ₁ σ₂:Gs} {vars:Vars} {ow:Option (Str × Ow)} {m cm:Str->Option Value} {h h':Heap} {Q:Flow->Shared->Prop} {E:Value->Shared->Prop}
theorem r0u(hK:IsX X)(hA:Room X A 105)(hsc:env.scope=d1342.sc)(C:Cz X env B)(R:Rel X env B f s.heap vars none m cm)(S:St X f σ s.heap){nd:Nd}(hb:isBox nd)(hw:WfN 6 nd)(hv:look "whole_one" vars=some (.abs (.part nd))){p1 p2 p3 p4 p5:Pos}:
  Tr X A (eval ((Expr.Name ("described") p1).Call [(Expr.Name ("whole_one") p2).Subscript (Expr.Constant (Const.int 0) 0 p3) p4] [] p5) env) f σ s (.abs (.desc nd)) σ:=by
 have EK:KxOK X 105 KP:=e0s hK
 refine b0p (c:=lw7E) (σ₁:=σ) hA (b0j EK.toEcOK C S (by rw[hsc];exact lw_g.2.1) lw_t.2.1 rfl) rfl (xs:=[.abs (.node nd)]) (λf3 h3 t3 K3 S3=> ?_) (i0j hK hb hw σ)
 exact a0b (k0k C (R.kp' K3) S3 rfl hv rfl) λf4 h4 t4 K4 S4=>b0f S4
theorem c1u{s:Shared}(S:St X f σ s.heap):Tr X A (eval bigE env) f σ s big1 σ:=by
 unfold bigE
 exact @p0x _ _ _ _ _ _ _ _ _ _ S (by kernel_rfl)
theorem y0u(hK:IsX X)(hA:Room X A 105)(hsc:env.scope=d1342.sc)(C:Cz X env B){nd:Nd}{d b:Nat}(R:Rel X env B f s.heap (Vm4 nd d b) none m cm)(S:St X f σ s.heap)(hb:isBox nd)(hw:WfN 6 nd)(hn:dn nd=true->σ.nb=true)(hm:σ.md=0){pos:Pos}:
  TrG X A (isTrue (.BoolOp .Or [lwC1,lwC2] pos) env (eval (.BoolOp .Or [lwC1,lwC2] pos) env)) f σ s (λx0 c=>V.bool false= .bool c) σ:=by
 have EK:KxOK X 105 KP:=e0s hK
 have kk:=m4_k nd d b
 have HE:=(b0q EK hA 80 env B (Vm4 nd d b) none m cm C).1
 have hr:51≤105:=by decide
 refine d1k (σ₁:=σ) (n0g (σ₁:=σ) (a:=rowsV (listR (depthOf d) (breadthOf b) 7 nilS [nd])) (b:=rowsV (listR (depthOf d) (breadthOf b) 7 nilS [nd])) rfl ?_ (λf1 h1 t1 K1 S1=> ?_) λf' s' v w S' hv hw'=>y0w hA S' hv hw') λf1 h1 t1 K1 S1=>n0g (σ₁:=σ) (a:=.abs (.desc nd)) (b:=.abs (.desc nd)) rfl ?_ (λf2 h2 t2 K2 S2=> ?_) λf' s' v w S' hv hw'=>a1n hw (by decide) hA S' hv hw'
 ·refine b0p (c:=lwBox) (σ₁:=σ) hA (b0j EK.toEcOK C S (by rw[hsc];exact lw_g.1) lw_t.1 rfl) (by kernel_rfl) (xs:=bxA (depthOf d) (breadthOf b) nd) (λf3 h3 t3 K3 S3=> ?_) ((c1k hK (l0s d) (m0h b) hw hn hm).at hr)
  have R3:=R.kp' K3
  refine a0b (k0k C R3 S3 rfl kk.1 rfl) λf4 h4 t4 K4 S4=> ?_
  refine a0b (c1u (s:={s with heap:=h4,toks:=t4}) S4) λf5 h5 t5 K5 S5=> ?_
  have R5:=(R3.kp' K4).kp' K5
  refine a0b (a0d C R5 S5 rfl kk.2.1) λf6 h6 t6 K6 S6=> ?_
  refine a0b (a0d C (R5.kp' K6) S6 rfl kk.2.2.1) λf7 h7 t7 K7 S7=> ?_
  exact a0b (a0d C ((R5.kp' K6).kp' K7) S7 rfl kk.2.2.2.1) λf8 h8 t8 K8 S8=>b0f S8
 ·refine b0p (c:=lwRows) (σ₁:=σ) (s:={s with heap:=h1,toks:=t1}) hA (b0j (s:={s with heap:=h1,toks:=t1}) EK.toEcOK C S1 (by rw[hsc];exact lw_g.2.2.1) lw_t.2.2.1 rfl) rfl (xs:=[.lst [.abs (.part nd)] 1,.str [],nat (depthOf d),nat (breadthOf b)]) (λf3 h3 t3 K3 S3=> ?_) ?_
  ·have R3:=(R.kp' K1).kp' K3
   refine a0b (k0h rfl (by show 1≤1000;decide) (a0b (a0d C R3 S3 rfl kk.1) λf5 h5 t5 K5 S5=>b0f S5)) λf6 h6 t6 K6 S6=> ?_
   refine a0b (b0t (s:={s with heap:=h6,toks:=t6}) (y:=.str []) S6 (by rfl)) λf7 h7 t7 K7 S7=> ?_
   have R7:=(R3.kp' K6).kp' K7
   refine a0b (a0d C R7 S7 rfl kk.2.1) λf8 h8 t8 K8 S8=> ?_
   exact a0b (a0d C (R7.kp' K8) S8 rfl kk.2.2.1) λf9 h9 t9 K9 S9=>b0f S9
  ·have sl:=lawRows (d:=depthOf d) (b:=breadthOf b) (X:=X) hK 6 [nd] nilS σ (Nat.le_refl _) (Nat.le_add_left 1 2) (a0m hw a0u) (by rw[e0y];decide)
   refine(sl.at (show 6+1≤105 by decide)).arg λf vs hv=> ?_
   cases hv with|cons g1 hv=>
   cases hv with|cons g2 hv=>
   exact .cons (Le.abs (d:=.parts [nd]) (by show 1≤100;decide) X f _ g1) (.cons (b0b g2 rfl (by rw[e0y];decide)) hv)
 ·exact r0u (s:={s with heap:=h1,toks:=t1}) hK hA hsc C (R.kp' K1) S1 hb hw kk.1
 ·exact a0d C ((R.kp' K1).kp' K2) S2 rfl kk.2.2.2.2
end
section
variable {X:Cx} {A:Around} {n:Nat} {env:Env} {B:Bs} {f:FH} {m cm:Str->Option Value} {Q:Flow->Shared->Prop} {E:Value->Shared->Prop} {r:RcS}
set_option tactic.hygienic true in
theorem e0w(HR:SndS X A env B r){b:List Stmt}:∀(es:List Stmt)(st st₁:Sx)(f:FH)(s:Shared)(m cm:Str->Option Value),evSs r es st=some (.next,st₁)->Rel X env B f s.heap st.vars st.ow m cm->St X f st.σ s.heap->
  (∀f1 h1 t1 m1 cm1,Rel X env B f1 h1 st₁.vars st₁.ow m1 cm1->St X f1 st₁.σ h1->wpAny X.M A (execs b env) Q E {s with heap:=h1,toks:=t1})->wpAny X.M A (execs (es++b) env) Q E s
 |[],st,st₁,f,s,m,cm,h,R,S,H=>by
  cases h
  exact H f s.heap s.toks m cm R S
 |e::es,st,st₁,f,s,m,cm,h,R,S,H=>by
  rw[n0c] at h
  split at h
  ·rename_i st₂ h1
   refine wpAny_execs_cons (HR e st _ st₂ f s m cm h1 R S _ _ λfl' f1 hp1 t1 m1 cm1 r1 le1 S1 R1=> ?_)
   cases r1
   exact e0w HR es st₂ st₁ f1 {s with heap:=hp1,toks:=t1} m1 cm1 h R1 S1 λf2 h2 t2 m2 cm2 R2 S2=>H f2 h2 t2 m2 cm2 R2 S2
  ·rename_i hn h1
   cases h
   exact absurd rfl hn
  ·cases h
theorem x0m{A0:Around}(hA0:A0.frames=some [])(hK:IsX X)(hA:Room X (A0.deeper env) 115)(hsc:env.scope=d1342.sc)(hfrm:env.frame=some env.locals)(C:Cz X env B){s:Shared}(R:Rel X env B f s.heap Vm0 none m cm){nd:Nd}{d b:Nat}{p e:P2}
  (S:St X f ⟨[.box 2 nd,.v 5 d,.v 4 b],e,false,2⟩ s.heap)(hg:∀b,X.G b->B.h₀.get? b=none)(hF:Fo [.box 2 nd,.v 5 d,.v 4 b] p e)
  (hQ:∀h' t',(∀b o,B.h₀.get? b=some o->h'.get? b=some o)->Q (.ret (.bool true)) {s with heap:=h',toks:=t'}):wpAny X.M (A0.deeper env) (execs (lwA++(lwB++(lwC++[lwS7,lwS8,lawTry]))) env) Q E s:=by
 have wf:isBox nd∧WfN (2 * 2+2) nd:=hF.wf (.box 2 nd) (.head _)
 obtain⟨hb,hw⟩:=wf
 have hw:WfN 6 nd:=hw
 have d5:d<5:=hF.bnd 5 d (.tail _ (.head _)) (by decide)
 have b4:b<4:=hF.bnd 4 b (.tail _ (.tail _ (.head _))) (by decide)
 have HS:SndS X (A0.deeper env) env B RLaw:=by
  have:=c0m (a1i hK) hA (W:=[]) 80 env B C
  rw[hsc] at this
  exact this
 have hA1:Room X (A0.deeper env) 105:=⟨hA.1,by have:=hA.2.1;lia,by have:=hA.2.2;lia⟩
 have hA2:Room X (A0.deeper env) 40:=⟨hA.1,by have:=hA.2.1;lia,by have:=hA.2.2;lia⟩
 refine e0w HS lwA _ _ f s m cm (lw_a _ e) R S λf1 h1 t1 m1 cm1 R1 S1=> ?_
 have R1':Rel X env B f1 h1 Vm1 none m1 cm1:=R1.weakL (.cons (y:=toolsV) (by kernel_rfl) (Le.abs (d:=.tools) trivial) (.same (by kernel_rfl) (.same (by kernel_rfl) .nil)))
 refine e0w HS lwB ⟨Vm1,none,_⟩ _ f1 {s with heap:=h1,toks:=t1} m1 cm1 (lw_b nd _ e false) R1' S1 λf2 h2 t2 m2 cm2 R2 S2=> ?_
 refine e0w HS lwC _ _ f2 {s with heap:=h2,toks:=t2} m2 cm2 (a0a (lw_c nd e (orB false (dn nd))) (d,b) (a0f (List.mem_range.mpr d5) (List.mem_range.mpr b4))) R2 S2 λf3 h3 t3 m3 cm3 R3 S3=> ?_
 refine wpAny_execs_cons (b0l (s:={s with heap:=h3,toks:=t3}) C R3 S3 ((b0n _ _ _ env).trans (by rw[hsc];exact a0z z0f.2.1)) (by rw[hsc];exact z0f.1) z0f.2.2 (r0u (s:={s with heap:=h3,toks:=t3}) hK hA1 hsc C R3 S3 hb hw (m3_k nd d b)) _ _ λfl' f4 h4 t4 m4 cm4 r4 le4 S4 R4=> ?_)
 cases r4
 have R4:Rel X env B f4 h4 (Vm4 nd d b) none m4 cm4:=R4
 refine wpAny_execs_cons (wpAny_If (y0u (s:={s with heap:=h4,toks:=t4}) hK hA1 hsc C R4 S4 hb hw (λh=>by show orB false (dn nd)=true;rw[h];rfl) rfl _ _ λc f5 h5 t5 K5 S5 r5=> ?_))
 obtain rfl:false=c:=by cases r5;rfl
 refine wpAny_execs_nil ?_
 have kk:=m4_k nd d b
 exact c1g (s:={s with heap:=h5,toks:=t5}) hA0 hK hA2 hsc hfrm C (R4.kp' K5) S5 hg (l0s d) kk.1 kk.2.1 λh' t' k=>hQ h' t' k
end
noncomputable def Vs0(l:List Int):Vars:=[("script",.lst (scI l) 1000)]
theorem vars1342(l:List Int):varsOf d1342 [.lst (scI l) 1000] e1342.dxs=Vs0 l:=by kernel_rfl
theorem len1342(l:List Int):Nat.ble [V.lst (scI l) 1000].length e1342.D.names.length=true∧Nat.ble e1342.dxs.length e1342.D.names.length=true∧Nat.ble e1342.D.names.length ([V.lst (scI l) 1000].length+e1342.dxs.length)=true:=⟨by kernel_rfl,by kernel_rfl,by kernel_rfl⟩
theorem vs_k(l:List Int)(y:V):look "script" (Vs0 l)=some (.lst (scI l) 1000)∧look "heap" (("heap",y)::Vs0 l)=some y:=⟨by kernel_rfl,by kernel_rfl⟩
section
variable {X:Cx} {f:FH} {σ:Gs} {s:Shared} {Q:Value->Shared->Prop} {E:Value->Shared->Prop}
theorem d1y(hK:IsX X)(hX:X.n=0){A0:Around}(hA0:A0.frames=some [])(hA:Room X A0 116)(S:St X f σ s.heap){l:List Int}(hl:l.length≤1000){vs:List Value}(hv:VRs X f vs [.lst (scI l) 1000])
  (hQ:∀h' t',(∀b o,s.heap.get? b=some o->h'.get? b=some o)->Q (.bool true) {s with heap:=h',toks:=t'}):wpAny X.M A0 (call (.ref 1342) vs) Q E s:=by
 obtain⟨hm,_⟩:=a0q f1342
 obtain⟨hFn,hs,hd⟩:=(a0y hK).fn _ hm
 have hdv:=hd f S.base
 have l1:=hv.length
 have l2:=hdv.length
 have ln:=len1342 l
 refine wpAny_call ?_
 refine d0w (B:=⟨f,s.heap,[],none⟩) hFn hs S Kp.refl rfl (statics S) hv hdv (by rw[l1];exact Nat.le_of_ble_eq_true ln.1) (by rw[l2];exact Nat.le_of_ble_eq_true ln.2.1) (by rw[l1,l2];exact Nat.le_of_ble_eq_true ln.2.2) hA.rec (ow:=none)
  (λenv h m cm x0 x0 x0 x o e=>by cases e) (λv e=>by cases e) λenv h t m cm hsc hfrm C R S0=> ?_
 have hA':Room X (A0.deeper env) 115:=hA.deeper env
 have hsc:env.scope=d1342.sc:=hsc
 have EK:KxOK X 115 KP:=e0s hK
 replace R:Rel X env ⟨f,s.heap,[],none⟩ f h (Vs0 l) none m cm:=by rw[←vars1342];exact R
 show wpAny X.M _ (execs d1342.body env) _ _ _
 rw[body1342]
 have kk:=vs_k l
 obtain⟨fh,_,_⟩:=(a0y hK).fn e1244 (a0q f1244).1
 refine wpAny_execs_cons (wpAny_Assign_Name (d0u (s:={s with heap:=h,toks:=t}) (σ₁:=σ) (xs:=[.lst (scI l) 1000]) (b0j (s:={s with heap:=h,toks:=t}) EK.toEcOK C S0 (by rw[hsc];exact lw_g.2.2.2.1) lw_t.2.2.2.1 rfl) rfl (e0u fh.keep) (λf3 h3 t3 K3 S3=> ?_) λws f1 h1 t1 K1 S1 hws=> ?_) ((b0n _ _ _ env).trans (by rw[hsc];exact a0z a1y.2.1)))
 ·exact a0b (a0d C (R.kp' K3) S3 rfl (kk .none).1) λf4 h4 t4 K4 S4=>b0f S4
 refine y0x (n:=114) (s:={s with heap:=h1,toks:=t1}) hK hl hA' S1 hws λha N tn un kh f2 h2 t2 K2 S2 g2 New2=> ?_
 have P1:=(R.kp' K1).pinNews K2 [(ha,listOf (List.toArray [Value.int (Int.ofNat N) tn,.int 0 un]) kh)] λp hp=>by
  cases List.mem_singleton.mp hp
  exact⟨New2,g2⟩
 refine c0w (s:={s with heap:=h2,toks:=t2}) (C.pins _) P1 S2 (y:=.con (.ref ha)) (.con _) (by rw[hsc];exact a1y.1) a1y.2.2 λh3 t3 m3 cm3 S3 R3 x0=> ?_
 refine wpAny_execs_cons (wpAny_Assign_Name (d0u (s:={s with heap:=h3,toks:=t3}) (σ₁:=σ) (xs:=[]) (b0j (s:={s with heap:=h3,toks:=t3}) EK.toEcOK C S3 (by rw[hsc];exact lw_g.2.2.2.2) lw_t.2.2.2.2 rfl) rfl (l0p hK (σ:=σ) (n:=0)).1 (λf3 h3 t3 K3 S3=>b0f S3) λws f4 h4 t4 K4 S4 hws4=> ?_) ((b0n _ _ _ env).trans (by rw[hsc];exact a0z x0t.2.1)))
 refine(l0p (n:=111) hK).2 (A0.deeper env) f4 {s with heap:=h4,toks:=t4} ws hA' S4 hws4 _ _ λw f5 h5 t5 K5 S5 NN=> ?_
 cases NN with| @mk a d es k D1 L _ g1 g2' g3 g4 g5 n1 n2 n3 n4 ne n12 a1 a2 b1 b2 hD=>
 have R4:=R3.kp' K4
 have hlive:h4.get? ha=some (listOf (List.toArray [Value.int (Int.ofNat N) tn,.int 0 un]) kh):=(R4.pin _ (.head _)).1
 have neH:∀{b},h4.get? b=none->b≠ha:=λq z=>Option.some_ne_none _ (hlive.symm.trans (z▸q))
 have P5:=R4.pinNews K5 [(a,instObj 819 d),(d,{cls:=.type "dict",data:=.dict (List.toArray es) k}),(D1,{cls:=.type "dict",data:=.dict #[]}),(L,listOf #[] 0)] (a0m ⟨n1,g1⟩ (a0m ⟨n2,g2'⟩ (a0m ⟨n3,g4⟩ (a0m ⟨n4,g5⟩ a0u))))
 refine c0w (s:={s with heap:=h5,toks:=t5}) (C.pins _) P5 S5 (y:=.con (.ref a)) (.con _) (by rw[hsc];exact x0t.1) x0t.2.2 λh6 t6 m6 cm6 S6 R6 hval=> ?_
 have v2:valOf env m6 cm6 "heap"=some (.ref ha):=by
  exact(R6.vars "heap" (.con (.ref ha)) (by kernel_rfl)).elim λv q=>(show v= .ref ha from q.2.inv)▸q.1
 obtain⟨f',le,R',St'⟩:=switch (σ:=σ) (C.pins _) R6 S6 hX (.head _) (.tail _ (.head _)) (.tail _ (.tail _ (.head _))) (.tail _ (.tail _ (.tail _ (.head _)))) (.tail _ (.tail _ (.tail _ (.tail _ (.head _))))) ne n12 a1 a2 b1 b2 ⟨neH n1.1,neH n2.1,neH n3.1,neH n4.1⟩ hD g3 hval v2
 obtain⟨ndd,dd,bb,q,hF,hq⟩:=n0w (N,0) rfl
 have pn:∀p∈([(a,instObj 819 d),(d,{cls:=.type "dict",data:=.dict (List.toArray es) k}),(D1,{cls:=.type "dict",data:=.dict #[]}),(L,listOf #[] 0),(ha,listOf (List.toArray [Value.int (Int.ofNat N) tn,.int 0 un]) kh)]:List (Addr × Obj)),s.heap.get? p.1=none:=λp hp=>(R6.pin p hp).2.2.1
 have hg:∀b,(onX X ha D1 L).G b->s.heap.get? b=none:=λb=>G_on (P:=λb=>s.heap.get? b=none) (pn _ (.tail _ (.tail _ (.tail _ (.tail _ (.head _)))))) (pn _ (.tail _ (.tail _ (.head _)))) (pn _ (.tail _ (.tail _ (.tail _ (.head _)))))
 have hK3:IsX (onX X ha D1 L):=⟨hK.k,hK.lp⟩
 have C3:Cz (onX X ha D1 L) env ⟨f,s.heap,[],none⟩:=⟨C.kind,C.glob,C.blt,C.stat,C.hcl⟩
 exact x0m (X:=(onX X ha D1 L)) (s:={s with heap:=h6,toks:=t6}) hA0 hK3 hA' hsc hfrm C3 R' (St' _ q false hF hq) hg hF λh' t' k=>hQ h' t' k
end
end
section
open PySem PySem.W PySem.Calls PyProof.Rows
noncomputable def bdy:List Stmt:=behindTheImports pw0
noncomputable abbrev HA(T:Params->BT)(n toks:Nat)(w:World)(os:OsState):Shared:=(HS T n toks w os).abs
noncomputable def H1(P:Params):Heap:=absHeap (T50 P) 1343 lf
theorem b1q(w:World):(fencedOpening treeTable pw0 w 30000).map (λs=>(s.heap,s.gens,s.drawn,s.toks))=some (boot_heap w.params,Array.mk [],boot_drawn,boot_toks):=
 boot_open (p:=pw0) (N:=30000) (by kernel_rfl) (by decide) (λs=>by kernel_rfl) w
theorem c1y(w:World):((boot_heap w.params).isNs mainGlobals&&(Array.mk []:Array GenState).size==0,(boot_heap w.params).objs.size,(boot_heap w.params).nsMap mainGlobals "__annotations__")=(true,11,some (.ref 6)):=by kernel_rfl
theorem h_pre(w:World):(λos=>topGo treeTable pw0 w 11 (some (.ref 6)) 12 ⟨boot_heap w.params,Array.mk [],boot_drawn,boot_toks,os⟩ (topStub pw0))=λos=>some (HA T1 15 187 w os,⟨denote treeTable (.body bdy envH),.body bdy envH,⟨0,0,0,0⟩,Bq⟩):=by
 rw[PySem.W.Fast.te15667345088766844465,PySem.W.Fast.te14364793385576792824,PySem.W.Fast.te11892475500146522536]
 kernel_rfl
theorem h_fin(w:World)(s:Shared)(c:Code)(q:Pos):topRun treeTable pw0 w 11 (some (.ref 6)) 2 s ⟨doneF .next,c,q,Bq⟩=some s:=by
 cases s
 rfl
theorem z0o(w:World)(s:Shared)(b:List Stmt)(c:Code)(q:Pos):segRun treeTable pw0 w 11 (some (.ref 6)) 1 1 s (blockOf bdy envH c q Bq)=some (.next,s,c,q):=by
 cases s
 kernel_rfl
end
section
open PySem PySem.Spec PySem.Calls PyProof.Rows PySem.W
theorem t0v(P:Params):(frag P).map (λp=>(T50 P).get p.1)=(frag P).map (λp=>some p.2):=by kernel_rfl
theorem y0h(P:Params):(frag P).map (λp=>(Nat.ble (p.1+1) 1343,alive p.2))=(frag P).map (λp=>(true,some p.2)):=by kernel_rfl
theorem w0i{α:Type}:∀{l:List (Addr × α)}{n:Addr}{c:α},l.lookup n=some c->(n,c)∈l
 |(k,v)::r,n,c,h=>by
  rw[List.lookup_cons] at h
  cases q:n==k with
  |true=>
   rw[q] at h
   cases h
   rw[beq_iff_eq.mp q]
   exact .head _
  |false=>
   rw[q] at h
   exact .tail _ (w0i h)
theorem a1m(P:Params):(frag P).In (H1 P):=λa o h=>by
 have hm:=w0i h
 have e1:(T50 P).get a=some o:=List.map_inj_left.mp (t0v P) (a,o) hm
 have e2:(Nat.ble (a+1) 1343,alive o)=(true,some o):=List.map_inj_left.mp (y0h P) (a,o) hm
 have e3:Nat.ble (a+1) 1343=true:=congrArg Prod.fst e2
 exact(abs_get (Nat.le_of_ble_eq_true e3) e1).trans (congrArg Prod.snd e2)
noncomputable abbrev row1:RowW:=rw0.row.toRowW
theorem c1x:row1.pre= .and (.not (.lt (.lit (.int 63)) (.len (.arg 0)))) (.lit (.bool true)):=by kernel_rfl
theorem z0t:row1.args=[.list .int]∧row1.records=[]∧row1.returns= .bool∧row1.post= .eq .res (.lit (.bool true))∧row1.raises=[]∧row1.unshared=true:=⟨rfl,rfl,rfl,rfl,rfl,rfl⟩
theorem r0k:∀{xs:List WData},(∀d∈xs,∃i,d= .int i)->∃l:List Int,xs=l.map .int
 |[],_=>⟨[],rfl⟩
 |_::_,h=>(h _ (.head _)).elim λi e=>(r0k λd hd=>h d (.tail _ hd)).elim λl e'=>⟨i::l,congr (congrArg List.cons e) e'⟩
theorem p0f{args:List WData}(h:row1.claim.pre args=true):∃l:List Int,l.length≤63∧args=[.list (l.map .int)]:=by
 have hh:=pre_splitW h
 rw[z0t.1] at hh
 obtain⟨d,r,rfl,h3,h4⟩:=hasAllW_cons hh.1
 obtain rfl:=hasAllW_nil h4
 obtain⟨xs,rfl,h5⟩:=hasW_list h3
 obtain⟨l,rfl⟩:=r0k λd hd=>hasW_int (hasItemsW_at h5 d hd)
 refine⟨l,?_,rfl⟩
 have h2:=hh.2
 rw[c1x] at h2
 have q:=condW_of h2 (w_and (w_not (w_lt w_lit (w_len_list (w_arg rfl)))) w_lit)
 rw[Bool.and_true,Bool.not_eq_true',List.length_map] at q
 exact Nat.le_of_not_lt λhlt=>of_decide_eq_false q (Int.ofNat_lt.mpr hlt)
theorem l0b{R:WRecords}{cl:Str->Option Addr}{P:Params}{ord:List DictEntry->List DictEntry}:∀(l:List Int)(s:Shared)(q:List Value × Shared),layAllW R cl P ord (l.map .int) s=some q->q.2.heap=s.heap∧∀(X:Cx)(f:FH),VRs X f q.1 (scI l)
 |[],s,q,h=>Option.some.inj h▸⟨rfl,λX f=>.nil⟩
 |i::l,s,q,h=>
  let⟨a,q',h1,h2,h3⟩:=layAllW_cons (x:=.int i) (xs:=l.map .int) h
  have e:a=(.int i s.toks,{s with toks:=s.toks+1}):=(Option.some.inj h1).symm
  have H:=l0b l _ _ h2
  h3▸⟨H.1.trans (e▸rfl),λX f=>.cons (e▸.int _ _) (H.2 X f)⟩
theorem u0g{R:WRecords}{cl:Str->Option Addr}{P:Params}{ord:List DictEntry->List DictEntry}{l:List Int}{s s':Shared}{vs:List Value}(h:layAllW R cl P ord [.list (l.map .int)] s=some (vs,s')):
  ∃ws:List Value,vs=[.ref s.heap.objs.size]∧s'.heap=s.heap.push (listOf ws.toArray 0)∧∀(X:Cx)(f:FH),VRs X f ws (scI l):=by
 obtain⟨a,q,h1,h2,h3⟩:=layAllW_cons h
 obtain⟨p,h4,e⟩:=layW_list h1
 have H:=l0b l _ _ h4
 cases h2
 cases h3
 cases e
 exact⟨p.1,by rw[H.1],by rw[H.1],H.2⟩
end
section
open PySem PySem.W PySem.Calls PyProof.Rows
noncomputable def PD(n:Nat)(S S':World->OsState->SharedT)(st:List Stmt)(u u':Pos)(w:World):Prop:=(λ(p:Program)(b:List Stmt)(os:OsState)=>PySem.W.Fast.tw10110043849684766642 PySem.W.Fast.tw14364793385576792824 p w 11 (some (.ref 6)) 1 n (S w os) (piecesOf st envH (.body b envH) u Bq))=λp b os=>some (.next,S' w os,.body b envH,u')
noncomputable def PC(n:Nat)(S S':World->OsState->SharedT)(st:List Stmt)(u u':Pos):Prop:=∀w:World,(λ(p:Program)(b:List Stmt)(os:OsState)=>segRunT treeTable p w 11 (some (.ref 6)) 1 n (S w os) (piecesOf st envH (.body b envH) u Bq))=λp b os=>some (.next,S' w os,.body b envH,u')
theorem PC.of{n:Nat}{S S':World->OsState->SharedT}{st:List Stmt}{u u':Pos}(h:∀w,PD n S S' st u u' w):PC n S S' st u u':=λw=>by
 rw[PySem.W.Fast.te10110043849684766642,PySem.W.Fast.te14364793385576792824]
 exact h w
@[irreducible] noncomputable def sts0:List Stmt:=[X 0,X 1,X 2,X 3,X 4,X 5]
theorem pc0:PC 901 (HS T1 15 187) (HS T5 79 272) sts0 ⟨0,0,0,0⟩ ⟨13,0,14,8⟩:=.of λw=>by unfold PD;kernel_rfl
@[irreducible] noncomputable def sts1:List Stmt:=[X 6,X 7,X 8,X 9,X 10,X 11,X 12]
theorem pc1:PC 702 (HS T5 79 272) (HS T8 115 336) sts1 ⟨13,0,14,8⟩ ⟨24,0,24,10⟩:=.of λw=>by unfold PD;kernel_rfl
@[irreducible] noncomputable def sts2:List Stmt:=[X 13]
theorem pc2:PC 102 (HS T8 115 336) (HS T9 119 344) sts2 ⟨24,0,24,10⟩ ⟨25,19,25,24⟩:=.of (byRow2 "special-get-raises" (P:=PD 102 (HS T8 115 336) (HS T9 119 344) sts2 ⟨24,0,24,10⟩ ⟨25,19,25,24⟩) (λw=>by unfold PD;kernel_rfl) λw=>by unfold PD;kernel_rfl)
@[irreducible] noncomputable def sts3:List Stmt:=[X 14,X 15,X 16,X 17,X 18,X 19,X 20,X 21,X 22,X 23,X 24,X 25,X 26]
theorem pc3:PC 1157 (HS T9 119 344) (HS T13 317 594) sts3 ⟨25,19,25,24⟩ ⟨125,0,125,8⟩:=.of λw=>by unfold PD;kernel_rfl
@[irreducible] noncomputable def sts4:List Stmt:=[X 27,X 28,X 29,X 30,X 31,X 32]
theorem pc4:PC 771 (HS T13 317 594) (HS T16 341 660) sts4 ⟨125,0,125,8⟩ ⟨131,30,131,37⟩:=.of (byRow2 "special-get-raises" (P:=PD 771 (HS T13 317 594) (HS T16 341 660) sts4 ⟨125,0,125,8⟩ ⟨131,30,131,37⟩) (λw=>by unfold PD;kernel_rfl) λw=>by unfold PD;kernel_rfl)
@[irreducible] noncomputable def sts5:List Stmt:=[X 33,X 34,X 35,X 36,X 37,X 38,X 39]
theorem pc5:PC 1019 (HS T16 341 660) (HS T20 438 817) sts5 ⟨131,30,131,37⟩ ⟨171,0,180,26⟩:=.of λw=>by unfold PD;kernel_rfl
@[irreducible] noncomputable def sts6:List Stmt:=[X 40,X 41,X 42,X 43,X 44]
theorem pc6:PC 1191 (HS T20 438 817) (HS T25 544 977) sts6 ⟨171,0,180,26⟩ ⟨214,0,218,35⟩:=.of λw=>by unfold PD;kernel_rfl
@[irreducible] noncomputable def sts7:List Stmt:=[X 45,X 46,X 47,X 48,X 49]
theorem pc7:PC 1221 (HS T25 544 977) (HS T30 649 1144) sts7 ⟨214,0,218,35⟩ ⟨253,0,259,35⟩:=.of λw=>by unfold PD;kernel_rfl
@[irreducible] noncomputable def sts8:List Stmt:=[X 50,X 51,X 52,X 53,X 54,X 55,X 56,X 57,X 58]
theorem pc8:PC 903 (HS T30 649 1144) (HS T34 744 1290) sts8 ⟨253,0,259,35⟩ ⟨337,0,337,8⟩:=.of λw=>by unfold PD;kernel_rfl
@[irreducible] noncomputable def sts9:List Stmt:=[X 59,X 60,X 61]
theorem pc9:PC 467 (HS T34 744 1290) (HS T36 756 1332) sts9 ⟨337,0,337,8⟩ ⟨340,29,340,41⟩:=.of (byRow2 "special-get-raises" (P:=PD 467 (HS T34 744 1290) (HS T36 756 1332) sts9 ⟨337,0,337,8⟩ ⟨340,29,340,41⟩) (λw=>by unfold PD;kernel_rfl) λw=>by unfold PD;kernel_rfl)
@[irreducible] noncomputable def sts10:List Stmt:=[X 62,X 63,X 64,X 65]
theorem pc10:PC 90 (HS T36 756 1332) (HS T37 759 1377) sts10 ⟨340,29,340,41⟩ ⟨344,0,344,14⟩:=.of λw=>by unfold PD;kernel_rfl
@[irreducible] noncomputable def sts11:List Stmt:=[X 66]
theorem pc11:PC 207 (HS T37 759 1377) (HS T38 760 1406) sts11 ⟨344,0,344,14⟩ ⟨345,0,345,18⟩:=.of (byRow2 "special-get-raises" (P:=PD 207 (HS T37 759 1377) (HS T38 760 1406) sts11 ⟨344,0,344,14⟩ ⟨345,0,345,18⟩) (λw=>by unfold PD;kernel_rfl) λw=>by unfold PD;kernel_rfl)
@[irreducible] noncomputable def sts12:List Stmt:=[X 67,X 68,X 69,X 70,X 71,X 72,X 73,X 74,X 75,X 76,X 77,X 78,X 79]
theorem pc12:PC 671 (HS T38 760 1406) (HS T41 877 1557) sts12 ⟨345,0,345,18⟩ ⟨434,0,434,12⟩:=.of λw=>by unfold PD;kernel_rfl
@[irreducible] noncomputable def sts13:List Stmt:=[X 80]
theorem pc13:PC 66 (HS T41 877 1557) (HS T42 881 1561) sts13 ⟨434,0,434,12⟩ ⟨435,7,435,14⟩:=.of (byRow2 "special-get-raises" (P:=PD 66 (HS T41 877 1557) (HS T42 881 1561) sts13 ⟨434,0,434,12⟩ ⟨435,7,435,14⟩) (λw=>by unfold PD;kernel_rfl) λw=>by unfold PD;kernel_rfl)
@[irreducible] noncomputable def sts14:List Stmt:=[X 81,X 82,X 83,X 84,X 85,X 86,X 87,X 88,X 89,X 90,X 91,X 92,X 93,X 94,X 95,X 96,X 97,X 98,X 99,X 100,X 101,X 102,X 103,X 104,X 105,X 106,X 107,X 108,X 109,X 110,X 111,X 112]
theorem pc14:PC 1028 (HS T42 881 1561) (HS T45 1054 1835) sts14 ⟨435,7,435,14⟩ ⟨594,0,594,9⟩:=.of λw=>by unfold PD;kernel_rfl
@[irreducible] noncomputable def sts15:List Stmt:=[X 113,X 114]
theorem pc15:PC 185 (HS T45 1054 1835) (HS T46 1062 1849) sts15 ⟨594,0,594,9⟩ ⟨596,20,596,24⟩:=.of (byRow2 "special-get-raises" (P:=PD 185 (HS T45 1054 1835) (HS T46 1062 1849) sts15 ⟨594,0,594,9⟩ ⟨596,20,596,24⟩) (λw=>by unfold PD;kernel_rfl) λw=>by unfold PD;kernel_rfl)
@[irreducible] noncomputable def sts16:List Stmt:=[X 115,X 116,X 117,X 118,X 119,X 120,X 121,X 122,X 123,X 124,X 125]
theorem pc16:PC 847 (HS T46 1062 1849) (HS T48 1207 2073) sts16 ⟨596,20,596,24⟩ ⟨656,0,712,17⟩:=.of λw=>by unfold PD;kernel_rfl
@[irreducible] noncomputable def sts17:List Stmt:=[X 126,X 127,X 128,X 129,X 130,X 131,X 132,X 133,X 134,X 135,X 136,X 137,X 138,X 139,X 140,X 141,X 142,X 143,X 144,X 145,X 146,X 147]
theorem pc17:PC 659 (HS T48 1207 2073) (HS T50 1343 2266) sts17 ⟨656,0,712,17⟩ ⟨859,0,873,46⟩:=.of λw=>by unfold PD;kernel_rfl
noncomputable def qv:Program:={pw0 with main:={pw0.main with body:=[X 147]}}
noncomputable def lo:List Str:=(["_wall","PageError","BadArgument","Overflow","BadCharacter","BadFont","TooDeep","TooMuch","UNITY","MAX_DIMEN","MAX_NUMBER","NORMAL","FIL","FILL","FILLL","is_whole","check_whole","check_number","check_dimen","rounded","reading","decimal_text","order_text","part_text","Glue","top_order","Totals","CHAR","LIGATURE","HBOX","VBOX","RULE","KERN","GLUE","PENALTY","DISC","MARK","INSERT","ADJUST","MATH_nodes","SPECIAL","UNSET","NATURAL","STRETCHED","SHRUNK","FONT_KERN","EXPLICIT","ACCENT_KERN","MU_KERN","PLAIN","ALEADERS","CLEADERS","XLEADERS","MU_SKIP","NONSCRIPT","NAMED","FOR_DEVICE","WRITING","OPENING","CLOSING","DEEPEST","check_code","check_short","Char","Ligature","Box","Rule","Kern","Skip","Penalty","Disc","Mark","Insert","Adjust","MathEdge","Special","Write","OpenOut","CloseOut","Unset","check_depth","described_special","described_rest","described","described_list","ESCAPE","BEGIN","END","MATH_tokens","TAB","RETURN","PARAMETER","UP","DOWN","IGNORED","SPACE","LETTER","OTHER","ACTIVE","COMMENT","INVALID","CONTROL","OUT","MATCH","FROZEN","NOT_EXPANDED","MOST_NAMES","LEAST_CODES","GREATEST_CODES","END_MARK_TEXTS","SPECIAL_CATEGORIES","is_token","check_text","Names","plain_category","is_letter","escape_text","name_text","end_mark_text","show_token","show_tokens","MOST_DEPTH","MOST_BREADTH","DEPTH","BREADTH","MOST_RATIO","MOST_STREAM","CUT","SKIP_NAMES","Showing","octet_text","font_text","rule_size","sizes_text","set_text","box_text","cell_text","skip_name","skip_text","kern_text","ligature_text","stream_text","tokens_text","special_text","insert_text","edge_text","disc_text","node_text","lists_of","node_lines","list_lines","box_lines","EDGE","MOST_FONTS","MOST_PARAMS","MOST_SIZE","PLAIN_SORT","PROGRAM_SORT","LARGER_SORT","PIECES_SORT","STOP_SKIP","KERN_OP","LEAD","NO_CHARACTER","LETTERS","SMALL_PARAMS","is_size","check_sizes","check_pieces","check_chars","check_larger","check_program","left_start","Font","font_name","font_of_rows","_law_orders","_law_names","_law_heap","_law_take","_law_half","_law_number","_law_flow","_law_sizes","_law_box","_law_cell","_law_letter","_law_done","_law_skip","_law_rule","_law_small","_law_part","_law_list","_law_rows"]:List String).map Str.ofString
noncomputable abbrev S1(w:World)(os:OsState):Shared:=⟨H1 w.params,Array.mk [],boot_drawn,2266,os⟩
theorem q0g(w:World):staticsOk (importedModules pw0.main.body) (boot_heap w.params) (H1 w.params)=true:=by kernel_rfl
theorem x0n(w:World):namesBound pw0 (H1 w.params)=true:=by
 unfold namesBound
 rw[PySem.W.Fast.te18344453789297297638,PySem.W.Fast.sDec_eq]
 kernel_rfl
theorem b1p(w:World):(λos=>gensDone (S1 w os))=λos=>true:=by kernel_rfl
theorem c1c(w:World):laidKept (boot_heap w.params) (H1 w.params)=true:=by kernel_rfl
theorem d1c(w:World):(λos=>openSeen qv lo (importedModules pw0.main.body) (λ_=>true) true (S1 w os))=λos=>openGood qv lo:=by
 rw[PySem.W.Fast.te4187177175401517315]
 kernel_rfl
theorem at3{α:Sort _}{f g:Program->List Stmt->OsState->α}(h:f=g)(p:Program)(b:List Stmt)(os:OsState):f p b os=g p b os:=by rw[h]
theorem c1j:bdy=sts0++(sts1++(sts2++(sts3++(sts4++(sts5++(sts6++(sts7++(sts8++(sts9++(sts10++(sts11++(sts12++(sts13++(sts14++(sts15++(sts16++(sts17++[]))))))))))))))))):=by kernel_rfl
theorem h_run(w:World)(os:OsState):∃M,Nat.ble M 30000=true∧topRun treeTable pw0 w 11 (some (.ref 6)) M ⟨boot_heap w.params,Array.mk [],boot_drawn,boot_toks,os⟩ (topStub pw0)=some (HA T50 1343 2266 w os):=by
 have k:=h_fin w (HA T50 1343 2266 w os) (.body bdy envH) ⟨859,0,873,46⟩
 replace k:topRun _ _ _ _ _ _ _ (restOf [] envH _ _ Bq)=_:=piece_nil k
 replace k:=piece_app (segRun_of (at3 (pc17 w) pw0 bdy os)) k
 replace k:=piece_app (segRun_of (at3 (pc16 w) pw0 bdy os)) k
 replace k:=piece_app (segRun_of (at3 (pc15 w) pw0 bdy os)) k
 replace k:=piece_app (segRun_of (at3 (pc14 w) pw0 bdy os)) k
 replace k:=piece_app (segRun_of (at3 (pc13 w) pw0 bdy os)) k
 replace k:=piece_app (segRun_of (at3 (pc12 w) pw0 bdy os)) k
 replace k:=piece_app (segRun_of (at3 (pc11 w) pw0 bdy os)) k
 replace k:=piece_app (segRun_of (at3 (pc10 w) pw0 bdy os)) k
 replace k:=piece_app (segRun_of (at3 (pc9 w) pw0 bdy os)) k
 replace k:=piece_app (segRun_of (at3 (pc8 w) pw0 bdy os)) k
 replace k:=piece_app (segRun_of (at3 (pc7 w) pw0 bdy os)) k
 replace k:=piece_app (segRun_of (at3 (pc6 w) pw0 bdy os)) k
 replace k:=piece_app (segRun_of (at3 (pc5 w) pw0 bdy os)) k
 replace k:=piece_app (segRun_of (at3 (pc4 w) pw0 bdy os)) k
 replace k:=piece_app (segRun_of (at3 (pc3 w) pw0 bdy os)) k
 replace k:=piece_app (segRun_of (at3 (pc2 w) pw0 bdy os)) k
 replace k:=piece_app (segRun_of (at3 (pc1 w) pw0 bdy os)) k
 replace k:=piece_app (segRun_of (at3 (pc0 w) pw0 bdy os)) k
 replace k:=(congrArg (λb=>topRun treeTable pw0 w 11 (some (.ref 6)) _ _ (restOf b envH (.body bdy envH) ⟨0,0,0,0⟩ Bq)) c1j).trans k
 replace k:=piece_block (z0o w (HA T1 15 187 w os) bdy (.body bdy envH) ⟨0,0,0,0⟩) k
 replace k:=go_top (congrFun (h_pre w) os) k
 exact⟨_,by kernel_rfl,k⟩
theorem h_S1(w:World)(os:OsState):HA T50 1343 2266 w os=S1 w os:=by kernel_rfl
theorem e1e:LeftO pw0 qv lo (λ_=>true) (λs=>s.heap) (λw=>H1 w.params) 30000:=
 LeftO.of_pieces (M:=30000) b1q c1y (λw os=>by obtain⟨M,h,k⟩:=h_run w os;rw[h_S1] at k;have r:=topRun_mono (30000 - M) _ _ _ _ k;rwa [show M+(30000 - M)=30000 by have:=Nat.le_of_ble_eq_true h;lia] at r) (by decide) λw=>by
  funext os
  refine looks_pair ?_ (looks_pair (congrFun (d1c w) os) rfl)
  rw[q0g,x0n,congrFun (b1p w) os,c1c]
  rfl
end
section
open PySem PySem.W PyProof.Rows
theorem la1:sreFenced pw0.main=true:=by kernel_rfl
theorem la2:((moduleNames pw0.main.body).isEmpty||lookedIntoSs (moduleNames pw0.main.body) pw0.main.body)=true:=by kernel_rfl
theorem la3:namesResolve pw0=true:=by
 rw[PySem.W.Fast.te8377067652309620493]
 kernel_rfl
theorem la4:pw0.boundNames.all (λn=> !worldNames.contains n)=true:=by
 rw[PySem.W.Fast.te18344453789297297638,PySem.W.Fast.sDec_eq]
 kernel_rfl
theorem ra1:readsOut pw0 pw0.main.body "vars"=false:=by
 rw[PySem.W.Fast.te13343964577679436407]
 kernel_rfl
theorem ra2:readsOut pw0 pw0.main.body "dir"=false:=by
 rw[PySem.W.Fast.te13343964577679436407]
 kernel_rfl
theorem ra3:readsOut pw0 pw0.main.body "locals"=false:=by
 rw[PySem.W.Fast.te13343964577679436407]
 kernel_rfl
theorem filt0{f:Str->Bool}{a b c:Str}(h1:f a=false)(h2:f b=false)(h3:f c=false):[a,b,c].filter f=[]:=by simp[h1,h2,h3]
theorem j0l(lk:Look):∀a b:List Stmt,noRoadLSs lk a=true->noRoadLSs lk b=true->noRoadLSs lk (a++b)=true
 |[],b,_,h=>h
 |s::a,b,h1,h2=>by
  have h1:(noRoadLS lk s&&noRoadLSs lk a)=true:=h1
  have z:=Bool.and_eq_true_iff.mp h1
  show(noRoadLS lk s&&noRoadLSs lk (a++b))=true
  rw[z.1,j0l lk a b z.2 h2];rfl
noncomputable def lkA:Look:={strict:= !(importedModules pw0.main.body).all cThrough.contains,foot:=none,bare:=[]}
theorem la5a:noRoadLSs lkA (pw0.main.body.take 90)=true:=by
 rw[PySem.W.Fast.te8326940854005059898]
 kernel_rfl
theorem la5b:noRoadLSs lkA (pw0.main.body.drop 90)=true:=by
 rw[PySem.W.Fast.te8326940854005059898]
 kernel_rfl
theorem la5:noRoadLSs {strict:= !(importedModules pw0.main.body).all cThrough.contains,foot:=none,bare:=(["vars","dir","locals"]:List Str).filter (readsOut pw0 pw0.main.body)} pw0.main.body=true:=by
 rw[filt0 ra1 ra2 ra3,←List.take_append_drop 90 pw0.main.body]
 exact j0l lkA _ _ la5a la5b
theorem la6:namesMeet pw0 pw0.main.body (λ_ n=>attrL n)=true:=by
 rw[PySem.W.Fast.te17119622794617984870,PySem.W.Fast.te17868728402115742887]
 kernel_rfl
theorem lb1:(decide (rw0.foot≤(behindTheImports rw0.prog).length)&&rw0.footing.all footLine&&noClassBlock rw0.prog rw0.footing&&rw0.most.all (λn=>decide (63≤n))&&rw0.bound.all (λn=>decide (2 ^ 63≤n)))=true:=by kernel_rfl
theorem lb2:noRoadLSs {strict:=true,foot:=some rw0.bound',writes:=rw0.writes,may:=rw0.may} rw0.footing=true:=by
 rw[PySem.W.Fast.te8326940854005059898]
 kernel_rfl
theorem lb3:(defStands rw0.about rw0.above&&rw0.namesIt)=true:=by kernel_rfl
theorem lb4:((["type","isinstance","issubclass","getattr","hasattr"]:List Str).all (λn=>rw0.about != [n])&&rw0.bound'.all (λn=> !builtinNamed n||rw0.about==[n]|| !rw0.reads n))=true:=by
 rw[PySem.W.Fast.named_eq,PySem.W.Fast.te6984425678791042302,PySem.W.Fast.te797321630700447069,PySem.W.Fast.sDec_eq]
 kernel_rfl
theorem lb5:((!rw0.writes||(rw0.prog.main.body.flatMap importedNames).all λn=> !rw0.reads n)&&(rw0.prog.main.body.flatMap importedNames).all (λn=> !rw0.reads n||(drawsOf n rw0.prog.main.body).all λmn=>mn.2 != ("attrgetter":Str)&&mn.2 != ("methodcaller":Str)))=true:=by kernel_rfl
theorem lb6:namesMeet rw0.prog rw0.footing (λsc n=>(!(["type","isinstance","issubclass","getattr","hasattr"]:List Str).contains n||sc.names.lookup n==some .globalImplicit)&&
  (rw0.may != some n||sc.kind== .module||sc.names.lookup n==some .globalImplicit))=true:=by
 rw[PySem.W.Fast.te17119622794617984870,PySem.W.Fast.sDec_eq]
 kernel_rfl
theorem lb7:(rw0.own.contains rw0.name&&rw0.own.eraseDups.length==rw0.own.length&&rw0.own.all (λn=> !builtinNamed n))=true:=by kernel_rfl
theorem lb8:namesMeet rw0.prog rw0.above (λ_ n=> !rw0.own.contains n)=true:=by
 rw[PySem.W.Fast.te17119622794617984870,PySem.W.Fast.te10792542408131684335,PySem.W.Fast.sDec_eq]
 kernel_rfl
theorem lb9:(namesMeet rw0.prog rw0.footing λsc n=>sc.kind== .module||sc.names.lookup n != some .globalExplicit)=true:=by
 rw[PySem.W.Fast.te17119622794617984870,PySem.W.Fast.sDec_eq]
 kernel_rfl
end
section
open PySem PySem.W PySem.Calls PyProof.Rows
theorem l0z:looksOpen pw0=true:=by
 unfold looksOpen
 exact look_both (look_both (look_both (look_both (look_both la1 la2) la3) la4) la5) la6
theorem o0l:rw0.row.partSaid=true:=by
 unfold OpenRow.partSaid
 refine look_both (look_both (look_both (look_both (look_both (look_both (look_both (look_both (look_both (look_both (look_both (look_both (look_both l0z ?_) ?_) ?_) ?_) ?_) ?_) ?_) ?_) ?_) ?_) ?_) ?_) ?_
 all_goals kernel_rfl
theorem s0u:rw0.row.wellSaid=true:=by
 unfold OpenRow.wellSaid
 refine look_both (look_both o0l ?_) ?_
 all_goals kernel_rfl
theorem d0h{a b:Bool}(h:(a&&b)=true):a=true:=(Bool.and_eq_true_iff.mp h).1
theorem g0z{a b:Bool}(h:(a&&b)=true):b=true:=(Bool.and_eq_true_iff.mp h).2
theorem said:rw0.wellSaid=true:=by
 unfold OpenLaw.wellSaid
 exact look_both (look_both (look_both (look_both (look_both (look_both (look_both (look_both (look_both (look_both (look_both (look_both (look_both (look_both (look_both (look_both (look_both (look_both s0u
  (d0h (d0h (d0h (d0h lb1))))) (g0z (d0h (d0h (d0h lb1))))) (g0z (d0h (d0h lb1)))) (g0z (d0h lb1))) (g0z lb1)) lb2) (d0h lb3)) (g0z lb3)) (d0h lb4)) (g0z lb4)) (d0h lb5)) (g0z lb5)) lb6) (d0h (d0h lb7))) (g0z (d0h lb7))) (g0z lb7)) lb8) lb9
theorem x0h:rw0.row.toRowW.promised:=by w_witness2
noncomputable def dlaw:DefRec:=match X 147 with
 | .FunctionDef n a b _ _ _ sc _ _ pos=>⟨n,a,b,sc,pos⟩
 |_=>⟨"",default,[],default,default⟩
theorem j_def:defOf qv "law"=some (dlaw,[]):=by kernel_rfl
theorem v0c:pw0.theDef "law"=some (dlaw.params,dlaw.body,dlaw.scope):=by kernel_rfl
theorem j_kw:kwWritten? dlaw.params.kwonlyargs dlaw.params.kw_defaults=some []:=by kernel_rfl
theorem j_ok:(chainsOk qv&&opensWell pw0&&(frees rw0.row.toRowW&&rw0.row.within.isEmpty))=true:=by kernel_rfl
theorem e1h(s:Shared):(λ_:Shared=>true) s=true->RecFacts rw0.row.records s.heap:=λ_=>recFacts_nil rfl
theorem j_tab:rw0.row.prog.tablesWhole=true:=by
 show TablesWhole.wProgram TablesWhole.holds pw0=true
 unfold TablesWhole.wProgram TablesWhole.holds
 rw[PySem.W.Fast.te6116379765354995101,PySem.W.Fast.te15985051520779696433]
 kernel_rfl
theorem e1r:rw0.row.prog.bare:=⟨rfl,rfl,rfl,rfl,rfl,j_tab⟩
theorem joined(call:WalkX qv lo (λ_ _=>True) (λs=>s.heap) (λw=>H1 w.params) rw0.row.toRowW dlaw [] λf vs=>PySem.call f vs):PySem.Challenge.rw_sq0076_01.Holds:=
 holds_law said λk1=>holds_openX (r:=rw0.row) e1e (λ_ _=>trivial) (λ_ _ _ _ _=>trivial) j_def v0c j_kw e1h (by rfl) k1 j_ok e1r x0h call
end
section
open PySem PySem.Spec PySem.Calls PyProof.Rows PySem.W
theorem d1z(P:Params):nsAt ((frag P).lookup mainGlobals) "law"=some (.ref 1342):=by kernel_rfl
theorem q0a:dlaw.name="law":=by kernel_rfl
theorem b1g(l:List Int):rw0.row.toRowW.claim.post [.list (l.map .int)] (.bool true) [.list (l.map .int)]=true:=by kernel_rfl
theorem walk:WalkX qv lo (λx0 x0=>True) (λs=>s.heap) (λw=>H1 w.params) rw0.row.toRowW dlaw [] λf vs=>PySem.call f vs:=by
 intro w s₀ s₁ mg mb G Y a o pm cd doc dV kV h1 h2 h3 h4 h5 hgens args vals as L hpre hlay hrd hwell hsys
 have Y:s₀.heap=H1 w.params:=Y
 have kin0:(frag w.params).In s₁.heap:=λb o' e=>L.keeps b o' (by rw[Y];exact a1m _ b o' e)
 have ha:a=1342:=by
  obtain⟨og,es,ep,q1,q2,q3,q4⟩:=G.T.g
  have e1:=d1z w.params
  cases q:(frag w.params).lookup mainGlobals with
  |none=>rw[q] at e1;cases e1
  |some o'=>
   have e2:=kin0 _ _ q
   rw[q1] at e2
   cases e2
   rw[q] at e1
   unfold nsAt at e1
   dsimp only at e1
   rw[q2] at e1
   have e3:=q4 "law"
   rw[q0a] at h5
   rw[h5] at e3
   have e4:nsFind es "law"=some (.ref 1342):=e1
   rw[e3] at e4
   cases e4
   rfl
 subst ha
 obtain⟨l,hl,rfl⟩:=p0f hpre
 obtain⟨⟨ord,hord,hlaid⟩,_⟩:=L
 obtain⟨ws,rfl,hh,hws⟩:=u0g hlaid
 let X:Cx:=⟨rw0.row.toRowW.prog,w,frag w.params,λx0=>0,0,true⟩
 have hK:IsX X:=⟨rfl,rfl⟩
 have ng:∀b,¬X.G b:=by
  rintro b ⟨j,hj,_⟩
  exact Nat.not_lt_zero _ hj
 have gl:s₁.heap.get? s₀.heap.objs.size=some (listOf ws.toArray 0):=by rw[hh];exact Heap.get?_push_size _ rfl
 let f:FH:=λb=>if b=s₀.heap.objs.size then some (listOf ws.toArray 0) else(frag w.params).lookup b
 have fl:f s₀.heap.objs.size=some (listOf ws.toArray 0):=if_pos rfl
 have S:St X f gs9 s₁.heap:=by
  refine⟨λb o' e=> ?_,λb o' e=> ?_,⟨⟨(0,0),0,0,λq=>absurd q (Nat.lt_irrefl _),.nil _⟩,λk hk=>absurd hk (Nat.not_lt_zero _),λk hk=>absurd hk (Nat.not_lt_zero _),by decide,λD T hm=>by simp[namesOf,gs9] at hm⟩,λb hb=>absurd hb (ng b),G.T.nolimit⟩
  ·show(if b=s₀.heap.objs.size then _ else _)=some o'
   split
   ·rename_i q
    subst q
    rw[←gl];exact kin0 _ _ e
   ·exact e
  ·replace e:(if b=s₀.heap.objs.size then _ else _)=some o':=e
   split at e
   ·rename_i q
    subst q
    cases e
    exact gl
   ·exact kin0 _ _ e
 have hA:Room X callerA 116:=⟨λx0=>rfl,by decide,by decide⟩
 show wpAny X.M callerA (call (.ref 1342) [.ref s₀.heap.objs.size]) _ _ _
 refine d1y (X:=X) hK rfl rfl hA S (l:=l) (by lia) (.one (.lst fl (hws X f) (by rw[show(scI l).length=l.length from List.length_map _];lia))) λh' t' k=> ?_
 refine⟨.inl ⟨.bool true,.bool true,[],rfl,λcls=>rfl,.bool _,b1g l,λx0=>⟨.nil,λb hb=>nomatch hb⟩⟩,.of_keep k,rfl,.of_eq hgens⟩
theorem final:PySem.Challenge.rw_sq0076_01.Holds:=joined walk
end
end Mine
theorem PySem.Challenge.cw_sq0076_01_holds : PySem.Challenge.rw_sq0076_01.Holds :=
  Mine.final
