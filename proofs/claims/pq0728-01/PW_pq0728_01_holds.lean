import PyProof.Rows.All
import Wide.All
import OpenK.KLine
import Wide.FinOn
import KE.KPar
import PyProof.Raises
import PyProof.AssignAttr
import PyProof.FactsAll.list_3
import PyProof.AttrMissSeq
import PyProof.AutoSeq1
import PyProof.SliceSyntax
import PyProof.ForAny
import PyProof.CompMap
import PyProof.CompUse
import PyProof.CompFree
import PyProof.DictTable
import PyProof.NeKinds
import PyProof.WalksMore
import PyProof.RangeFor
import PyProof.Rows.TupAssign
import PyProof.ZipIter
import PyProof.WalksPairs
import PyProof.Rows.SortWalk
import KE.KDictLaws
import KE.KDictSum
import KE.KDictOf
import KE.KRevSl
import PySem.Challenge.RW_pq0728_01
set_option Elab.async false
set_option maxRecDepth 100000
set_option linter.all false
set_option tactic.hygienic false
set_option maxHeartbeats 1000000
set_option bootstrap.genMatcherCode false
noncomputable section
section
namespace Mine.Tactic
def wT : String := "
om=+|~o0 #|~o1 + #|~o2 + #|~o3 + #|~o4 + + #|~o5 + #|~o6 + + #|~o7 + +|~o8 + +|~o9 + +|~o10 + +|~o13 + + + #|~o18 + +|~o20 + +|~o22 + +|;
=!'with_reducible 'exact $0 .exact/2 ~1 .withReducible/2
=~'apply $0 .apply/2
=?'exact $0 .exact/2
=^'refine $0 'by 'assumption .assumption/1 ~1 :byTactic/2 ? @2 .refine/2
=%'exact `Eq.trans 'by 'walk_at $1 PyProof.Rows.tacticWalk_at_/2 ~1 :byTactic/2 'by 'exact `rfl .exact/2 ~1 :byTactic/2 @2 .exact/2
=#'exact `rfl .exact/2
=+'assumption .assumption/1
=-'with_reducible 'assumption .assumption/1 ~1 .withReducible/2
=&'omega /0 .optConfig/1 .omega/2
=;'omega '+ `splitDisjunctions .posConfigItem/2 .configItem/1 /1 .optConfig/1 .omega/2
=@'simp /0 .optConfig/1 /0 /0 /0 /0 .simp/6
=>'walk_at $1 PyProof.Rows.tacticWalk_at_/2
=<'with_reducible 'apply $0 .apply/2 ~1 .withReducible/2
=c'fail_if_success 'fail_if_success 'refine `absurd `Eq.symm $0 @1 ? @2 .refine/2 ~1 .failIfSuccess/2 ~1 .failIfSuccess/2 'subst $0 /1 .subst/2 (2 'refine `Mine.Tactic.s3 $0 ? @2 .refine/2 'clear $0 /1 .clear/2 'intro `Z1 `Z2 `Z3 /3 .intro/2 'subst `Z1 /1 .subst/2 'subst `Z2 /1 .subst/2 'subst `Z3 /1 .subst/2 (6 'refine `Mine.Tactic.s2 $0 ? @2 .refine/2 'clear $0 /1 .clear/2 'intro `Z1 `Z2 /2 .intro/2 'subst `Z1 /1 .subst/2 'subst `Z2 /1 .subst/2 (5 'replace $0 :letId/1 /0 /0 ':= `Option.some.inj $0 @1 :letIdDecl/5 :letDecl/1 .replace/2 'subst $0 /1 .subst/2 (2 'fail /0 .fail/2 |5
=r'refine `Eq.symm $0 @1 '▸ ? /1 :subst/3 .refine/2 'try 'with_reducible 'rfl .tacticRfl/1 ~1 .withReducible/2 ~1 .tacticTry_/2 (2 'refine `Eq.symm $0 '.. :ellipsis/1 @1 @1 '▸ ? /1 :subst/3 .refine/2 'try 'with_reducible 'rfl .tacticRfl/1 ~1 .withReducible/2 ~1 .tacticTry_/2 (2 'fail /0 .fail/2 |3
=l'refine $0 '▸ ? /1 :subst/3 .refine/2 'try 'with_reducible 'rfl .tacticRfl/1 ~1 .withReducible/2 ~1 .tacticTry_/2 (2 'fail /0 .fail/2 |2
=a'replace $1 :letId/1 /0 /0 ':= $0 '▸ $1 /1 :subst/3 :letIdDecl/5 :letDecl/1 .replace/2 'replace $1 :letId/1 /0 /0 ':= $0 '.. :ellipsis/1 @1 '▸ $1 /1 :subst/3 :letIdDecl/5 :letDecl/1 .replace/2 'fail /0 .fail/2 |3
=s$0 $1 (2
get=!Qbg|QaS get
set=!set0|!Qan|!QbR|!QbJ|!Qas|!QaV|!Qak|!Qa1|!Qay|!QaE|!Ck|!C7|!CF|!Au|!set14|!Ap|QaD set
seta=!sa0|saS set seta
put=Qaj set|~Qa0 seta
rs0=!rs0|rsS set rs0
rs=rs1 set|rsM rs0
lk=Qe|-|Qf lk
st=!N3|+|Fq lk st|!Ky
sh=+|#
eq=-|YU lk lk #|+|#
in=Fa lk +|L3 lk # +|Fa lk eq|L3 lk # eq|~Ed eq
ix=~MD lk +|~FA lk # +|~MD lk #|~Ng #|~FA lk # #
call=-|+|LQ &|PD &|Xn & ki|Xs & ki|KZ &|L6 &|CD &|Qbn &|QaW &|EW & lt|Ce & ki lk lt + + +|V1 & ki lk lt + + +|EJ & lk # #|Qbr & +|Ta &|SY + & ki lk lt + + + +|PQ & lk +|PE & lk|Ar & +|Tk &|Lv & #|KL & lk +|~A0 &|GZ &|DT &|GP & lk #|Ln & lk lk #|NH &
as=!JE|Yd e as
cd=Fm tf e|FC tf e|H8 tf e|HZ tf e
cr=Fm tf re|FC tf re|H8 tf re|HZ tf re
tf=#|+
t=XT e|XF t|!Sp|!VF|Ys t ta|KM t to
ta=ES tf|EN tf t
to=CV tf|A5 tf t
sa=YJ lk|!Fb|!Hu
i=Np e il|Cc e e em em|ZG e sh|GV e e sh
il=~BL lk|?HI
em=?SM|~emp_lst lk
cl=XC %sa|Kk %sa put t cn
cn=CI tf cl|RY tf ce cl
ce=OS e lk sh st
e=!Es|!Vn|!Zg|!LW|!A9|T7 # #|YM get tf|-|FV as sh|MC as sh|!Sr|Kx #|CP #|CW #|Bl e e ix|Hf e lk # #|C5 # #|XG e e eq|VH # #|T4 e e eq|QaN e e in|T6 e e in|Qat e e #|Ts e e #|CZ e e ad|Ro e tl|R2 e tt|X_rev e lk sh|Ld e lk|L5 e lk|DM e lk # #|XB e lk e e lk # eq|Kp e lk e ne lk lk sh sh st|Qbu t cd|Mf e le|Mf e ld|Mf e #|Wu as call|O5 e lk # # as call|Fy as # call|BK i rs cl|KD e lk e lk sh st|AI e lk sh sh st|XE e|AT e|Cv e cr|QaA e cr|QaT e e #|QaF e e #|Qal e e #|QbA e e #|AJ e e #|XD e e #|CB e e #|X_not e #|Aa e #|Rb e #|EZ e e + + +|AU e e sh|VB e e sh|XD e e +|O4 e lk e e lk # + + st|O0 e lk e e lk # + +|En e|A8 e e|Sw e e #
ad=Sg lk lk sh|~add_tup sh|?TK
tl=PJ lk sh|~Lx sh
tt=Lq lk sh|?toTup_tup
le=~Bq lk sh|~RL sh
re=#|>e
s=L7 e get get lk # fp st lk # fp st|RA e e e lk # + + st|FB e e e lk + st|FB e e e lk # st|K7 e|NB e|!AC|ZL e set|Iv e # seta|Dw e e lk # fp st|Tf t sf|YG i fl|O6 wl
sf=Cr tf ss|Cw tf ss
ss=!W7|Qap e set ss|Qaz e # seta ss|Qa5 e e lk # fp st ss|QbD e ss|Qaw t tf ss|Qt s sk
sk=!BW|!Qbi|Q2 ss
fl=FE %sa|Hv %sa put ss fk
fk=!Xr|CQ fl|X_fkc fl
wl=VY t wk
wk=QbT tf wf|Vx tf wt
wf=!Qar
wt=Vs ss wj
wj=!XA|Xo wl
body=~Qt s sk
ext=!Ext.refl|~Ext.snoc ext
ne=-|#|~Yo &|~Yo @
fp=!fp0|~fpH #|~fpM # fp
ld=~RG lk sh
sm=#|!Bool.false_ne_true|~List.Mem.head|~List.cons_ne_nil|~Nat.le_refl|~lA|lA2 sm|~lP|~lQ|~nLD|~nDL|~nLI|~nIL|~nID|~nDI|~o0 #|~List.Mem.tail ms
ms=~List.Mem.head|~List.Mem.tail ms
ki=+|^KI.ext ext
lt=!X0|+|VC lt
"
def sK (t:String):Lean.Name:=(match t.front with
 |'.'=>"Lean.Parser.Tactic"++t
 |':'=>"Lean.Parser.Term."++(t.drop 1).toString
 |_=>t).toName
def sN (k:Lean.Name)(n:Nat)(st:List Lean.Syntax):List Lean.Syntax:=.node .none k (st.take n).reverse.toArray::st.drop n
def sA (t:String)(st:List Lean.Syntax):List Lean.Syntax:=.atom .none t::st
def sQ:List Lean.Syntax→List Lean.Syntax→List Lean.Syntax
 |[],st=>sN (sK ".tacticSeq") 1 (sN (sK ".tacticSeq1Indented") 1 (sN `null st.length st))
 |[t],st=>sQ [] (t::st)
 |t::r,st=>sQ r (sA ";" (t::st))
def sP (ts:List Lean.Syntax):Lean.Syntax:=(sN (sK ".paren") 3 (sA ")" (sQ ts []++sA "(" []))).head!
def s1 (ts:List Lean.Syntax):Lean.Syntax:=(sN (sK ".first") 2 (sN `null ts.length (ts.map fun t=>(sN `group 2 (sQ [t] []++sA "|" [])).head!).reverse++sA "first" [])).head!
def sF (as:List Lean.Syntax)(st:List Lean.Syntax)(t:String):List Lean.Syntax:=
 let r:=(t.drop 1).toString
 let n:=r.toNat?.getD 0
 match t.front with
 |'\''=>sA r st
 |'`'=>Lean.mkIdent r.toName::st
 |'$'=>as.getD n .missing::st
 |'?'=>sN (sK ":syntheticHole") 2 (sA "_" (sA "?" st))
 |'~'=>sQ (st.take n).reverse []++st.drop n
 |'('=>sP (st.take n).reverse::st.drop n
 |'|'=>s1 (st.take n).reverse::st.drop n
 |'@'=>sN (sK ":app") 2 (sN `null n st)
 |'/'=>sN `null n st
 |_=>match t.splitOn "/" with
  |[k,n]=>sN (sK k) n.toNat! st
  |_=>st
def sx (as:List Lean.Syntax)(s:String):Lean.Syntax:=((s.splitOn " ").foldl (sF as) []).head!
def sT (k:String):Option String:=((wT.splitOn "\n").find? (·.startsWith k)).map fun l=>(l.drop k.length).toString
def wG (w:String):Lean.Syntax:=
 let x:=(w.drop 1).toString
 let go (x:String) (k:Char):=sx [Lean.mkIdent (let n:=x.toName;if n.isAtomic then `Mine.Tactic++n else n),Lean.Syntax.mkStrLit x] ((sT ("="++k.toString)).getD "")
 if w.front.isAlpha then go w '>' else go x w.front
def wA (a:String):Lean.Syntax:=
 match a.splitOn " " with
 |[]=>.missing
 |h::r=>
  let n:=r.length
  let h:=wG (if h.front.isAlpha then "<"++h else h)
  sP (h::(r.zipIdx.map fun(x,i)=>if i+1==n then wG x else sx [wG x] "'· Lean.cdotTk/1 $0 ~1 Lean.cdot/2"))
def fF (x:Lean.Syntax):Lean.Syntax:=sx [x] "$0 'fail /0 .fail/2 |2"
def wM (s:String):Lean.Syntax:=sx [.missing,Lean.Syntax.mkStrLit s] "'walk_at $1 PyProof.Rows.tacticWalk_at_/2"
def wL (s:String):List String:=if s.front=='|' then(s.drop 1).toString.splitOn "|" else match sT (s++"=")with
 |none=>[]
 |some l=>l.splitOn "|"
def bM (p e:Lean.Syntax)(j:Nat):Lean.Syntax:=
 let ps:=p.getSepArgs.toList.map fun p=>sx [p] "'( $0 ') .rcasesPat.paren/3 .rintroPat.one/1"
 let n:=ps.length
 let pt:=(sN `null n ps.reverse).head!
 sx [Lean.mkIdent (Lean.Name.mkSimple (String.ofList ('x'::List.replicate j 'E'++List.replicate (n - 1 - j) 'A'))),e,pt] (if e.isIdent then "'refine $0 $1 ? @2 .refine/2 'clear $1 /1 .clear/2 'rintro $2 /0 .rintro/3 (3" else "'refine $0 $1 ? @2 .refine/2 'rintro $2 /0 .rintro/3 (2")
def mac (b:Bool)(x:Lean.Syntax):Lean.MacroM Lean.Syntax:=do
 let un:=Lean.Macro.throwUnsupported
 let t (as:List Lean.Syntax) (k:String):Lean.MacroM Lean.Syntax:=pure (sx as ((sT k).getD ""))
 match x.getKind.getString! with
 |"declaration"=>if x.getPos?.isNone then un else
  let y:=if x[1].isOfKind (sK "Lean.Parser.Command.definition")&&x[0][4].isNone then x.modifyArg 0 (·.modifyArg 4 fun _=>sx [] "'noncomputable Lean.Parser.Command.noncomputable/1 /1")else x
  pure (y.rewriteBottomUp (·.setInfo .none))
 |"omega"=>if x[1][0].getNumArgs==0 then pure (wM "om")else un
 |"simp"=>if x[1][0].getNumArgs==0&&x[2].isNone&&x[3].isNone&&x[4].isNone&&x[5].isNone then pure (wM "sm")else un
 |"tacticWalk_at_"=>match wL (x[1].isStrLit?.getD "")with
  |[]=>un
  |h::r=>if b then pure (fF (wA h))else if r.isEmpty then un else pure (wM ("|"++"|".intercalate r))
 |"cases"=>
  let h:=x[1][0][1]
  if x[1].getNumArgs==1&&x[1][0][0].isNone&&h.isIdent&&x[2].isNone&&x[3].isNone then t [h] "=c" else un
 |"obtain"=>
  let p:=x[1][0][0]
  if p.getNumArgs==1&&p[0].isOfKind (sK ".rcasesPat.tuple")&&x[2].isNone&&x[3][1].getNumArgs==1&&p[0][1].getNumArgs>2&&p[0][1].getNumArgs<32 then
   let j:=x.getNumArgs - 4
   if b then pure (fF (bM p[0][1] x[3][1][0] j))else if 2*j+2<p[0][1].getNumArgs then pure (x.setArgs (x.getArgs.push .missing))else un
  else un
 |"rwSeq"=>
  let rs:=x[2][1].getSepArgs
  let r:=rs[0]!
  let l:=x[3]
  if x[1][0].getNumArgs !=0 then un
  else if rs.size>1 then
   if l.isNone then t [(x.setArg 2 (x[2].setArg 1 (.node .none `null #[r]))),x.setArg 2 (x[2].setArg 1 (.node .none `null ((x[2][1].getArgs.extract 2 (2*rs.size))++if rs.size==2 then #[.atom .none ","]else #[])))] "=s" else un
  else if x[2][1].getNumArgs>1||(r.find? (·.isOfKind (sK ":byTactic"))).isSome then un
  else if l.isNone then t [r[1]] (if r[0].isNone then "=r" else "=l")
  else if r[0].isNone&&l[0].getKind==sK ".location"&&l[0][1][0].getNumArgs==1&&l[0][1][0][0].isIdent then t [r[1],l[0][1][0][0]] "=a" else un
 |_=>un
end Mine.Tactic
local macro_rules (kind := Lean.Parser.Command.declaration) | x => Mine.Tactic.mac true x
namespace Mine.Tactic
section
variable {a b c k m n x y z:Nat}
theorem o0 (e:Nat.ble a b=true):a≤b:=Nat.le_of_ble_eq_true e
theorem o1 (h:b≤n)(e:Nat.ble a b=true):a≤n:=Nat.le_trans (o0 e) h
theorem o2 (h:b≤n)(e:Nat.ble (a+c) b=true):a≤n - c:=Nat.le_sub_of_add_le (o1 h e)
theorem o3 (h:n≤a)(e:Nat.ble a b=true):n≤b:=Nat.le_trans h (o0 e)
theorem o4 (q:m=n)(h:n≤a)(e:Nat.ble a b=true):m≤b:=q▸o3 h e
theorem o5 (h:b≤n)(e:Nat.ble 1 b=true):n=n - 1+1:=(Nat.sub_add_cancel (o1 h e)).symm
theorem o6 (h:k<a)(h2:b≤m)(e:Nat.ble a b=true):k≠m:=fun q=>Nat.lt_irrefl k (Nat.lt_of_lt_of_le h (Nat.le_trans (o0 e) (q▸h2)))
theorem o7 (q:x=y)(h:x<y):False:=Nat.ne_of_lt h q
theorem o8 (q:x=y)(h:y<x):False:=Nat.ne_of_gt h q
theorem o9 (h:x≤y)(h2:y<x):False:=Nat.not_lt.mpr h h2
theorem o10 (q:x=y)(h:y<z):x<z:=q▸h
theorem o13 (q:y=a)(h:x≤y)(h2:b≤x)(e:Nat.ble (a+1) b=true):False:=o9 (Nat.le_trans (o0 e) (Nat.le_trans h2 h)) (q▸Nat.lt_succ_self _)
theorem o18 (h:x<y+1)(n:x≠y):x<y:=Nat.lt_of_le_of_ne (Nat.le_of_lt_succ h) n
theorem o20 (h:x<y)(h2:y≤z):x<z:=Nat.lt_of_lt_of_le h h2
theorem o22 (h:x≤y)(h2:y≤z):x≤z:=Nat.le_trans h h2
end
theorem lA {α:Type _}{h X:List α}:h.length≤(h++X).length:=by rw[List.length_append];exact Nat.le_add_right ..
theorem lA2 {α:Type _}{g h X:List α}(e:h.length≤g.length):h.length≤(g++X).length:=Nat.le_trans e lA
theorem lP {α:Type _}{h:List α}{x:α}:h.length+1=(h++[x]).length:=by rw[List.length_append,List.length_singleton]
theorem lQ {α:Type _}{h:List α}{x:α}:(h++[x]).length=h.length+1:=lP.symm
theorem q0 {Q:Prop}(h:let R:=Q;R):Q:=h
@[elab_as_elim] theorem q1 {α:Sort _} {Q:α→Prop} (x:α) (h:let R:=Q;R x):Q x:=h
@[elab_as_elim] theorem q2 {α β:Sort _} {Q:α→β→Prop} (x:α) (y:β) (h:let R:=Q;R x y):Q x y:=h
@[elab_as_elim] theorem q3 {α β γ:Sort _} {Q:α→β→γ→Prop} (x:α) (y:β) (z:γ) (h:let R:=Q;R x y z):Q x y z:=h
@[elab_as_elim] theorem q4 {α β γ δ:Sort _} {Q:α→β→γ→δ→Prop} (x:α) (y:β) (z:γ) (u:δ) (h:let R:=Q;R x y z u):Q x y z u:=h
theorem ff {G:Prop}(h:false=true):G:=Bool.noConfusion h
theorem fo {α:Type}{a:α}{G:Prop}(h:none=some a):G:=nomatch h
theorem os {α:Type}{a:α}{G:Prop}(h:some a=none):G:=nomatch h
theorem nm {α:Type}{a:α}{G:Prop}(h:a∈[]):G:=(List.not_mem_nil h).elim
theorem nl {α:Type}{a:α}{l:List α}{G:Prop}(h:a::l=[]):G:=nomatch h
theorem s2 {α β:Type _}{a c:α}{b d:β}{G:Prop}(h:some (a,b)=some (c,d))(k:a=c→b=d→G):G:=by cases h;exact k rfl rfl
theorem s3 {α β γ:Type _}{a c:α}{b d:β}{x y:γ}{G:Prop}(h:some ((x,a),b)=some ((y,c),d))(k:x=y→a=c→b=d→G):G:=by cases h;exact k rfl rfl rfl
theorem xA {P0 P1:Prop}{G:Prop}(h:P0∧P1)(k:P0→P1→G):G:=by
 obtain⟨p0,p1⟩:=h
 exact k p0 p1
theorem xE {α0:Sort _}{P0:α0→Prop}{G:Prop}(h:∃a0,P0 a0)(k:∀a0,P0 a0→G):G:=by
 obtain⟨a0,p0⟩:=h
 exact k a0 p0
theorem xAA {P0 P1 P2:Prop}{G:Prop}(h:P0∧P1∧P2)(k:P0→P1→P2→G):G:=by
 obtain⟨p0,p1,p2⟩:=h
 exact k p0 p1 p2
theorem xEA {α0:Sort _}{P0 P1:α0→Prop}{G:Prop}(h:∃a0,P0 a0∧P1 a0)(k:∀a0,P0 a0→P1 a0→G):G:=by
 obtain⟨a0,p0,p1⟩:=h
 exact k a0 p0 p1
theorem xEE {α0:Sort _}{α1:Sort _}{P0:α0→α1→Prop}{G:Prop}(h:∃a0,∃a1,P0 a0 a1)(k:∀a0 a1,P0 a0 a1→G):G:=by
 obtain⟨a0,a1,p0⟩:=h
 exact k a0 a1 p0
theorem xAAA {P0 P1 P2 P3:Prop}{G:Prop}(h:P0∧P1∧P2∧P3)(k:P0→P1→P2→P3→G):G:=by
 obtain⟨p0,p1,p2,p3⟩:=h
 exact k p0 p1 p2 p3
theorem xEAA {α0:Sort _}{P0 P1 P2:α0→Prop}{G:Prop}(h:∃a0,P0 a0∧P1 a0∧P2 a0)(k:∀a0,P0 a0→P1 a0→P2 a0→G):G:=by
 obtain⟨a0,p0,p1,p2⟩:=h
 exact k a0 p0 p1 p2
theorem xEEA {α0:Sort _}{α1:Sort _}{P0 P1:α0→α1→Prop}{G:Prop}(h:∃a0,∃a1,P0 a0 a1∧P1 a0 a1)(k:∀a0 a1,P0 a0 a1→P1 a0 a1→G):G:=by
 obtain⟨a0,a1,p0,p1⟩:=h
 exact k a0 a1 p0 p1
theorem xEEE {α0:Sort _}{α1:Sort _}{α2:Sort _}{P0:α0→α1→α2→Prop}{G:Prop}(h:∃a0,∃a1,∃a2,P0 a0 a1 a2)(k:∀a0 a1 a2,P0 a0 a1 a2→G):G:=by
 obtain⟨a0,a1,a2,p0⟩:=h
 exact k a0 a1 a2 p0
theorem xAAAA {P0 P1 P2 P3 P4:Prop}{G:Prop}(h:P0∧P1∧P2∧P3∧P4)(k:P0→P1→P2→P3→P4→G):G:=by
 obtain⟨p0,p1,p2,p3,p4⟩:=h
 exact k p0 p1 p2 p3 p4
theorem xEAAA {α0:Sort _}{P0 P1 P2 P3:α0→Prop}{G:Prop}(h:∃a0,P0 a0∧P1 a0∧P2 a0∧P3 a0)(k:∀a0,P0 a0→P1 a0→P2 a0→P3 a0→G):G:=by
 obtain⟨a0,p0,p1,p2,p3⟩:=h
 exact k a0 p0 p1 p2 p3
theorem xEEAA {α0:Sort _}{α1:Sort _}{P0 P1 P2:α0→α1→Prop}{G:Prop}(h:∃a0,∃a1,P0 a0 a1∧P1 a0 a1∧P2 a0 a1)(k:∀a0 a1,P0 a0 a1→P1 a0 a1→P2 a0 a1→G):G:=by
 obtain⟨a0,a1,p0,p1,p2⟩:=h
 exact k a0 a1 p0 p1 p2
theorem xEEEA {α0:Sort _}{α1:Sort _}{α2:Sort _}{P0 P1:α0→α1→α2→Prop}{G:Prop}(h:∃a0,∃a1,∃a2,P0 a0 a1 a2∧P1 a0 a1 a2)(k:∀a0 a1 a2,P0 a0 a1 a2→P1 a0 a1 a2→G):G:=by
 obtain⟨a0,a1,a2,p0,p1⟩:=h
 exact k a0 a1 a2 p0 p1
theorem xEEEE {α0:Sort _}{α1:Sort _}{α2:Sort _}{α3:Sort _}{P0:α0→α1→α2→α3→Prop}{G:Prop}(h:∃a0,∃a1,∃a2,∃a3,P0 a0 a1 a2 a3)(k:∀a0 a1 a2 a3,P0 a0 a1 a2 a3→G):G:=by
 obtain⟨a0,a1,a2,a3,p0⟩:=h
 exact k a0 a1 a2 a3 p0
theorem xAAAAA {P0 P1 P2 P3 P4 P5:Prop}{G:Prop}(h:P0∧P1∧P2∧P3∧P4∧P5)(k:P0→P1→P2→P3→P4→P5→G):G:=by
 obtain⟨p0,p1,p2,p3,p4,p5⟩:=h
 exact k p0 p1 p2 p3 p4 p5
theorem xEAAAA {α0:Sort _}{P0 P1 P2 P3 P4:α0→Prop}{G:Prop}(h:∃a0,P0 a0∧P1 a0∧P2 a0∧P3 a0∧P4 a0)(k:∀a0,P0 a0→P1 a0→P2 a0→P3 a0→P4 a0→G):G:=by
 obtain⟨a0,p0,p1,p2,p3,p4⟩:=h
 exact k a0 p0 p1 p2 p3 p4
theorem xEEAAA {α0:Sort _}{α1:Sort _}{P0 P1 P2 P3:α0→α1→Prop}{G:Prop}(h:∃a0,∃a1,P0 a0 a1∧P1 a0 a1∧P2 a0 a1∧P3 a0 a1)(k:∀a0 a1,P0 a0 a1→P1 a0 a1→P2 a0 a1→P3 a0 a1→G):G:=by
 obtain⟨a0,a1,p0,p1,p2,p3⟩:=h
 exact k a0 a1 p0 p1 p2 p3
theorem xEEEAA {α0:Sort _}{α1:Sort _}{α2:Sort _}{P0 P1 P2:α0→α1→α2→Prop}{G:Prop}(h:∃a0,∃a1,∃a2,P0 a0 a1 a2∧P1 a0 a1 a2∧P2 a0 a1 a2)(k:∀a0 a1 a2,P0 a0 a1 a2→P1 a0 a1 a2→P2 a0 a1 a2→G):G:=by
 obtain⟨a0,a1,a2,p0,p1,p2⟩:=h
 exact k a0 a1 a2 p0 p1 p2
theorem xEEEEA {α0:Sort _}{α1:Sort _}{α2:Sort _}{α3:Sort _}{P0 P1:α0→α1→α2→α3→Prop}{G:Prop}(h:∃a0,∃a1,∃a2,∃a3,P0 a0 a1 a2 a3∧P1 a0 a1 a2 a3)(k:∀a0 a1 a2 a3,P0 a0 a1 a2 a3→P1 a0 a1 a2 a3→G):G:=by
 obtain⟨a0,a1,a2,a3,p0,p1⟩:=h
 exact k a0 a1 a2 a3 p0 p1
theorem xEEAAAA {α0:Sort _}{α1:Sort _}{P0 P1 P2 P3 P4:α0→α1→Prop}{G:Prop}(h:∃a0,∃a1,P0 a0 a1∧P1 a0 a1∧P2 a0 a1∧P3 a0 a1∧P4 a0 a1)(k:∀a0 a1,P0 a0 a1→P1 a0 a1→P2 a0 a1→P3 a0 a1→P4 a0 a1→G):G:=by
 obtain⟨a0,a1,p0,p1,p2,p3,p4⟩:=h
 exact k a0 a1 p0 p1 p2 p3 p4
theorem xEEEAAA {α0:Sort _}{α1:Sort _}{α2:Sort _}{P0 P1 P2 P3:α0→α1→α2→Prop}{G:Prop}(h:∃a0,∃a1,∃a2,P0 a0 a1 a2∧P1 a0 a1 a2∧P2 a0 a1 a2∧P3 a0 a1 a2)(k:∀a0 a1 a2,P0 a0 a1 a2→P1 a0 a1 a2→P2 a0 a1 a2→P3 a0 a1 a2→G):G:=by
 obtain⟨a0,a1,a2,p0,p1,p2,p3⟩:=h
 exact k a0 a1 a2 p0 p1 p2 p3
theorem xEEEEAA {α0:Sort _}{α1:Sort _}{α2:Sort _}{α3:Sort _}{P0 P1 P2:α0→α1→α2→α3→Prop}{G:Prop}(h:∃a0,∃a1,∃a2,∃a3,P0 a0 a1 a2 a3∧P1 a0 a1 a2 a3∧P2 a0 a1 a2 a3)(k:∀a0 a1 a2 a3,P0 a0 a1 a2 a3→P1 a0 a1 a2 a3→P2 a0 a1 a2 a3→G):G:=by
 obtain⟨a0,a1,a2,a3,p0,p1,p2⟩:=h
 exact k a0 a1 a2 a3 p0 p1 p2
theorem xEEEEEA {α0:Sort _}{α1:Sort _}{α2:Sort _}{α3:Sort _}{α4:Sort _}{P0 P1:α0→α1→α2→α3→α4→Prop}{G:Prop}(h:∃a0,∃a1,∃a2,∃a3,∃a4,P0 a0 a1 a2 a3 a4∧P1 a0 a1 a2 a3 a4)(k:∀a0 a1 a2 a3 a4,P0 a0 a1 a2 a3 a4→P1 a0 a1 a2 a3 a4→G):G:=by
 obtain⟨a0,a1,a2,a3,a4,p0,p1⟩:=h
 exact k a0 a1 a2 a3 a4 p0 p1
theorem xEEAAAAA {α0:Sort _}{α1:Sort _}{P0 P1 P2 P3 P4 P5:α0→α1→Prop}{G:Prop}(h:∃a0,∃a1,P0 a0 a1∧P1 a0 a1∧P2 a0 a1∧P3 a0 a1∧P4 a0 a1∧P5 a0 a1)(k:∀a0 a1,P0 a0 a1→P1 a0 a1→P2 a0 a1→P3 a0 a1→P4 a0 a1→P5 a0 a1→G):G:=by
 obtain⟨a0,a1,p0,p1,p2,p3,p4,p5⟩:=h
 exact k a0 a1 p0 p1 p2 p3 p4 p5
theorem xEEEAAAA {α0:Sort _}{α1:Sort _}{α2:Sort _}{P0 P1 P2 P3 P4:α0→α1→α2→Prop}{G:Prop}(h:∃a0,∃a1,∃a2,P0 a0 a1 a2∧P1 a0 a1 a2∧P2 a0 a1 a2∧P3 a0 a1 a2∧P4 a0 a1 a2)(k:∀a0 a1 a2,P0 a0 a1 a2→P1 a0 a1 a2→P2 a0 a1 a2→P3 a0 a1 a2→P4 a0 a1 a2→G):G:=by
 obtain⟨a0,a1,a2,p0,p1,p2,p3,p4⟩:=h
 exact k a0 a1 a2 p0 p1 p2 p3 p4
theorem xEEEEAAA {α0:Sort _}{α1:Sort _}{α2:Sort _}{α3:Sort _}{P0 P1 P2 P3:α0→α1→α2→α3→Prop}{G:Prop}(h:∃a0,∃a1,∃a2,∃a3,P0 a0 a1 a2 a3∧P1 a0 a1 a2 a3∧P2 a0 a1 a2 a3∧P3 a0 a1 a2 a3)(k:∀a0 a1 a2 a3,P0 a0 a1 a2 a3→P1 a0 a1 a2 a3→P2 a0 a1 a2 a3→P3 a0 a1 a2 a3→G):G:=by
 obtain⟨a0,a1,a2,a3,p0,p1,p2,p3⟩:=h
 exact k a0 a1 a2 a3 p0 p1 p2 p3
theorem xEEEAAAAA {α0:Sort _}{α1:Sort _}{α2:Sort _}{P0 P1 P2 P3 P4 P5:α0→α1→α2→Prop}{G:Prop}(h:∃a0,∃a1,∃a2,P0 a0 a1 a2∧P1 a0 a1 a2∧P2 a0 a1 a2∧P3 a0 a1 a2∧P4 a0 a1 a2∧P5 a0 a1 a2)(k:∀a0 a1 a2,P0 a0 a1 a2→P1 a0 a1 a2→P2 a0 a1 a2→P3 a0 a1 a2→P4 a0 a1 a2→P5 a0 a1 a2→G):G:=by
 obtain⟨a0,a1,a2,p0,p1,p2,p3,p4,p5⟩:=h
 exact k a0 a1 a2 p0 p1 p2 p3 p4 p5
theorem xEEEEAAAA {α0:Sort _}{α1:Sort _}{α2:Sort _}{α3:Sort _}{P0 P1 P2 P3 P4:α0→α1→α2→α3→Prop}{G:Prop}(h:∃a0,∃a1,∃a2,∃a3,P0 a0 a1 a2 a3∧P1 a0 a1 a2 a3∧P2 a0 a1 a2 a3∧P3 a0 a1 a2 a3∧P4 a0 a1 a2 a3)(k:∀a0 a1 a2 a3,P0 a0 a1 a2 a3→P1 a0 a1 a2 a3→P2 a0 a1 a2 a3→P3 a0 a1 a2 a3→P4 a0 a1 a2 a3→G):G:=by
 obtain⟨a0,a1,a2,a3,p0,p1,p2,p3,p4⟩:=h
 exact k a0 a1 a2 a3 p0 p1 p2 p3 p4
theorem xEEEEEAAA {α0:Sort _}{α1:Sort _}{α2:Sort _}{α3:Sort _}{α4:Sort _}{P0 P1 P2 P3:α0→α1→α2→α3→α4→Prop}{G:Prop}(h:∃a0,∃a1,∃a2,∃a3,∃a4,P0 a0 a1 a2 a3 a4∧P1 a0 a1 a2 a3 a4∧P2 a0 a1 a2 a3 a4∧P3 a0 a1 a2 a3 a4)(k:∀a0 a1 a2 a3 a4,P0 a0 a1 a2 a3 a4→P1 a0 a1 a2 a3 a4→P2 a0 a1 a2 a3 a4→P3 a0 a1 a2 a3 a4→G):G:=by
 obtain⟨a0,a1,a2,a3,a4,p0,p1,p2,p3⟩:=h
 exact k a0 a1 a2 a3 a4 p0 p1 p2 p3
theorem xEEEEAAAAA {α0 α1 α2 α3:Sort _}{P0 P1 P2 P3 P4 P5:α0→α1→α2→α3→Prop}{G:Prop}(h:∃a0,∃a1,∃a2,∃a3,P0 a0 a1 a2 a3∧P1 a0 a1 a2 a3∧P2 a0 a1 a2 a3∧P3 a0 a1 a2 a3∧P4 a0 a1 a2 a3∧P5 a0 a1 a2 a3)(k:∀a0 a1 a2 a3,P0 a0 a1 a2 a3→P1 a0 a1 a2 a3→P2 a0 a1 a2 a3→P3 a0 a1 a2 a3→P4 a0 a1 a2 a3→P5 a0 a1 a2 a3→G):G:=h.elim fun a0 h=>h.elim fun a1 h=>h.elim fun a2 h=>h.elim fun a3 h=>k a0 a1 a2 a3 h.1 h.2.1 h.2.2.1 h.2.2.2.1 h.2.2.2.2.1 h.2.2.2.2.2
theorem xEEEEEEEAAAAAAAA {α0 α1 α2 α3 α4 α5 α6:Sort _}{P0 P1 P2 P3 P4 P5 P6 P7 P8:α0→α1→α2→α3→α4→α5→α6→Prop}{G:Prop}(h:∃a0,∃a1,∃a2,∃a3,∃a4,∃a5,∃a6,P0 a0 a1 a2 a3 a4 a5 a6∧P1 a0 a1 a2 a3 a4 a5 a6∧P2 a0 a1 a2 a3 a4 a5 a6∧P3 a0 a1 a2 a3 a4 a5 a6∧P4 a0 a1 a2 a3 a4 a5 a6∧P5 a0 a1 a2 a3 a4 a5 a6∧P6 a0 a1 a2 a3 a4 a5 a6∧P7 a0 a1 a2 a3 a4 a5 a6∧P8 a0 a1 a2 a3 a4 a5 a6)(k:∀a0 a1 a2 a3 a4 a5 a6,P0 a0 a1 a2 a3 a4 a5 a6→P1 a0 a1 a2 a3 a4 a5 a6→P2 a0 a1 a2 a3 a4 a5 a6→P3 a0 a1 a2 a3 a4 a5 a6→P4 a0 a1 a2 a3 a4 a5 a6→P5 a0 a1 a2 a3 a4 a5 a6→P6 a0 a1 a2 a3 a4 a5 a6→P7 a0 a1 a2 a3 a4 a5 a6→P8 a0 a1 a2 a3 a4 a5 a6→G):G:=h.elim fun a0 h=>h.elim fun a1 h=>h.elim fun a2 h=>h.elim fun a3 h=>h.elim fun a4 h=>h.elim fun a5 h=>h.elim fun a6 h=>k a0 a1 a2 a3 a4 a5 a6 h.1 h.2.1 h.2.2.1 h.2.2.2.1 h.2.2.2.2.1 h.2.2.2.2.2.1 h.2.2.2.2.2.2.1 h.2.2.2.2.2.2.2.1 h.2.2.2.2.2.2.2.2
theorem xEEEEEEEEAA {α0 α1 α2 α3 α4 α5 α6 α7:Sort _}{P0 P1 P2:α0→α1→α2→α3→α4→α5→α6→α7→Prop}{G:Prop}(h:∃a0,∃a1,∃a2,∃a3,∃a4,∃a5,∃a6,∃a7,P0 a0 a1 a2 a3 a4 a5 a6 a7∧P1 a0 a1 a2 a3 a4 a5 a6 a7∧P2 a0 a1 a2 a3 a4 a5 a6 a7)(k:∀a0 a1 a2 a3 a4 a5 a6 a7,P0 a0 a1 a2 a3 a4 a5 a6 a7→P1 a0 a1 a2 a3 a4 a5 a6 a7→P2 a0 a1 a2 a3 a4 a5 a6 a7→G):G:=h.elim fun a0 h=>h.elim fun a1 h=>h.elim fun a2 h=>h.elim fun a3 h=>h.elim fun a4 h=>h.elim fun a5 h=>h.elim fun a6 h=>h.elim fun a7 h=>k a0 a1 a2 a3 a4 a5 a6 a7 h.1 h.2.1 h.2.2
theorem xEAAAAAAAA {α0:Sort _}{P0 P1 P2 P3 P4 P5 P6 P7 P8:α0→Prop}{G:Prop}(h:∃a0,P0 a0∧P1 a0∧P2 a0∧P3 a0∧P4 a0∧P5 a0∧P6 a0∧P7 a0∧P8 a0)(k:∀a0,P0 a0→P1 a0→P2 a0→P3 a0→P4 a0→P5 a0→P6 a0→P7 a0→P8 a0→G):G:=h.elim fun a0 h=>k a0 h.1 h.2.1 h.2.2.1 h.2.2.2.1 h.2.2.2.2.1 h.2.2.2.2.2.1 h.2.2.2.2.2.2.1 h.2.2.2.2.2.2.2.1 h.2.2.2.2.2.2.2.2
theorem tr (i j k l:Nat){a b c:Nat}(h:a+i≤b+j)(h2:b+k≤c+l):a+(i+k)≤c+(j+l):=by rw[←Nat.add_assoc,Nat.add_comm j l,←Nat.add_assoc];exact Nat.le_trans (Nat.add_le_add_right h k) ((Nat.add_right_comm b j k).symm▸Nat.add_le_add_right h2 j)
theorem wk (p q:Nat){a b i j:Nat}(h:a+i≤b+j)(e:Nat.ble (p+j) (q+i)=true):a+p≤b+q:=by
 have t:=Nat.add_le_add h (Nat.le_of_ble_eq_true e)
 rw[Nat.add_add_add_comm a i p j,Nat.add_add_add_comm b j q i,Nat.add_comm j i]at t
 exact Nat.le_of_add_le_add_right t
theorem cy {a i j:Nat}{G:Prop}(h:a+i≤a+j)(e:Nat.ble i j=false):G:=by have:=Nat.ne_of_beq_eq_false (n:=0) (m:=1) rfl;exact absurd (Nat.le_of_add_le_add_left h) (by intro q;rw[Nat.ble_eq_true_of_le q]at e;cases e)
theorem o30 {a:Nat}:0+a=a:=by lia
theorem o31 {a b:Nat}(h0:33≤a)(h1:a≤b):b≠0:=Nat.ne_of_gt (wk 1 0 (i:=33) (j:=0) (tr 33 0 0 0 h0 h1) rfl)
theorem o33 {a b c:Nat}(h0:a<b)(h1:c=b):a<c:=tr 1 0 0 0 h0 (Nat.le_of_eq h1.symm)
theorem o34 {a b c:Nat}(h0:a=b)(h1:¬c<b):b≤c:=Nat.le_of_not_lt h1
theorem o35 {a b:Nat}{c:Prop}(h0:a<b)(h1:b≤a):c:=cy (i:=1) (j:=0) (tr 1 0 0 0 h0 h1) rfl
theorem o36 {a b c:Nat}(h0:a<b)(h1:b≤c):a≠c:=Nat.ne_of_lt (tr 1 0 0 0 h0 h1)
theorem o38 {a b:Nat}(h0:a<b):b≠a:=Nat.ne_of_gt h0
theorem o39 {a b:Nat}(h0:a<b):a≠b:=Nat.ne_of_lt h0
theorem o40 {a:Nat}(h0:0<a):a≠0:=Nat.ne_of_gt h0
theorem o41 {a b c:Nat}(h0:a<b)(h1:b<c):c≠a:=Nat.ne_of_gt (wk 1 0 (i:=2) (j:=0) (tr 1 0 1 0 h0 h1) rfl)
theorem o42 {a:Nat}(h0:a<a):False:=cy (i:=1) (j:=0) h0 rfl
theorem o44 {a b:Nat}(h0:a<b+1)(h1:a≥b):a=b:=Nat.le_antisymm (wk 0 0 (i:=1) (j:=1) h0 rfl) h1
theorem o45 {a b:Nat}(h0:¬a<b):b≤a:=Nat.le_of_not_lt h0
theorem o47 {a b:Nat}(h0:a=b)(h1:b≤50):b<64:=wk 1 64 (i:=0) (j:=50) h1 rfl
theorem o51 {a b c:Nat}(h0:a<b)(h1:b≤10)(h2:c=b):a≤1000:=wk 0 1000 (i:=1) (j:=10) (tr 1 0 0 10 h0 h1) rfl
theorem o53 {a b c d:Nat}(h0:a<b)(h1:b=c)(h2:c≤d):a<d:=tr 1 0 0 0 (tr 1 0 0 0 h0 (Nat.le_of_eq h1)) h2
theorem o54 {a b c:Nat}(h0:32≤a)(h1:a≤b)(h2:c<32):c≠b:=Nat.ne_of_lt (wk 1 0 (i:=33) (j:=32) (tr 33 32 0 0 (tr 1 32 32 0 h2 h0) h1) rfl)
theorem o56 {a:Nat}(h0:a≤60):a<64:=wk 1 64 (i:=0) (j:=60) h0 rfl
theorem o57 {a b:Nat}(h0:a≠b):¬(↑a:Int)=(↑b:Int):=fun h=>h0 (Int.ofNat_inj.mp h)
theorem o58 {a:Nat}:a≤a+1:=wk 0 1 (Nat.le_refl (a+0)) rfl
theorem o59 {a b:Nat}(h0:a<b):a<b+1:=wk 1 1 (i:=1) (j:=0) h0 rfl
theorem o60 {a b:Nat}(h0:¬a<b)(h1:¬a=b):¬a<b+1:=fun h=>(Nat.lt_or_eq_of_le (Nat.le_of_lt_succ h)).elim h0 h1
theorem o61 {a b:Nat}(h0:a≤b):a≤b+1:=wk 0 1 (i:=0) (j:=0) h0 rfl
theorem o62 {a b c d e f:Nat}(h0:a<b)(h1:c=b)(h2:d=c)(h3:e=d)(h4:f=e):a<f:=tr 1 0 0 0 (tr 1 0 0 0 (tr 1 0 0 0 (tr 1 0 0 0 h0 (Nat.le_of_eq h1.symm)) (Nat.le_of_eq h2.symm)) (Nat.le_of_eq h3.symm)) (Nat.le_of_eq h4.symm)
theorem o63 {a b:Nat}(h0:a=b)(h1:b≤10):b<64:=wk 1 64 (i:=0) (j:=10) h1 rfl
theorem o64 {a b c d e f:Nat}(h0:a<b)(h1:b<c)(h2:d=c+2)(h3:e=d+1)(h4:e=f):a<c:=wk 1 0 (i:=2) (j:=0) (tr 1 0 1 0 h0 h1) rfl
theorem o65 {a b:Nat}(h0:33≤a)(h1:a≤b):32≠b:=Nat.ne_of_lt (tr 33 0 0 0 h0 h1)
theorem o66 {a b:Nat}(h0:33≤a)(h1:a≤b):0≠b:=Nat.ne_of_lt (wk 1 0 (i:=33) (j:=0) (tr 33 0 0 0 h0 h1) rfl)
theorem o67 {a b:Nat}(h0:a<b):a≤b:=wk 0 0 (i:=1) (j:=0) h0 rfl
theorem o68 {a b c:Nat}(h0:a<b)(h1:b<c):a<c:=wk 1 0 (i:=2) (j:=0) (tr 1 0 1 0 h0 h1) rfl
theorem o70 {a b:Nat}(h0:a<b+1)(h1:b≤a):a=b:=Nat.le_antisymm (wk 0 0 (i:=1) (j:=1) h0 rfl) h1
theorem o71 {a b c:Nat}(h0:a<b)(h1:b=c):a<c:=tr 1 0 0 0 h0 (Nat.le_of_eq h1)
theorem o72 {a b c:Nat}(h0:a+(b+1)<c):a+1+b<c:=by rw[Nat.add_right_comm];exact h0
theorem o74:-1<0:=by decide
theorem o75 {a b c:Nat}(h0:a+3*b+4≤c):a+3*b+2≤c:=Nat.le_trans (Nat.add_le_add_left (by decide:2≤4) (a+3*b)) h0
theorem o76 {a b c:Nat}(h0:a+40*b+100≤c):a+1+40*b+80≤c:=by rw[Nat.add_right_comm a 1];exact Nat.le_trans (Nat.add_le_add_left (by decide:81≤100) (a+40*b)) h0
theorem o77 {a b:Nat}(h0:a=b):b≤a:=Nat.le_of_eq h0.symm
theorem o79 {a b:Nat}(h0:a=b):a≤b:=Nat.le_of_eq h0
theorem o82 {a b c:Nat}(h0:a+(b+1)=c):a<c:=h0▸Nat.lt_add_of_pos_right (Nat.succ_pos b)
theorem o83 {a b:Nat}(h0:0<a)(h1:a≤50)(h2:b=a):a≠0:=Nat.ne_of_gt h0
theorem o84 {a b:Nat}(h0:a<b)(h1:b≤50):a≤1000:=wk 0 1000 (i:=1) (j:=50) (tr 1 0 0 50 h0 h1) rfl
theorem o86 {a:Nat}(h0:a≤45):a<64:=wk 1 64 (i:=0) (j:=45) h0 rfl
theorem o87 {a b c:Nat}(h0:a<b)(h1:b≤45)(h2:c=b):a≤1000:=wk 0 1000 (i:=1) (j:=45) (tr 1 0 0 45 h0 h1) rfl
theorem o88 {a b c:Nat}(h0:a<b)(h1:b≤a)(h2:c=b+1):False:=cy (i:=1) (j:=0) (tr 1 0 0 0 h0 h1) rfl
theorem o91 (h0:35=32):False:=cy (i:=35) (j:=32) (Nat.le_of_eq h0) rfl
theorem o92 (h0:35=34):False:=cy (i:=35) (j:=34) (Nat.le_of_eq h0) rfl
theorem o93 (h0:35=33):False:=cy (i:=35) (j:=33) (Nat.le_of_eq h0) rfl
theorem o94 {a b:Nat}(h0:35=a∨35=b)(h1:36≤a∧36≤b):False:=h0.elim (fun h=>absurd h1.1 (h▸by decide)) fun h=>absurd h1.2 (h▸by decide)
theorem o95 {a b:Nat}:a≠a+(b+1):=by lia
theorem o96 {a b:Nat}:a+(b+1)=a+1+b:=(Nat.succ_add_eq_add_succ ..).symm
theorem o99 {a b c d e:Nat}(h0:a<b)(h1:c=b+2)(h2:d=c+1)(h3:d=e):c≠a:=Nat.ne_of_gt (wk 1 0 (i:=3) (j:=0) (tr 1 0 2 0 h0 (Nat.le_of_eq h1.symm)) rfl)
theorem o100 {a:Prop}{b c d e f:Nat}(h0:a)(h1:b<c)(h2:d=c+2)(h3:e=d+1)(h4:e=f):b<e:=wk 1 0 (i:=4) (j:=0) (tr 3 0 1 0 (tr 1 0 2 0 h1 (Nat.le_of_eq h2.symm)) (Nat.le_of_eq h3.symm)) rfl
theorem o101 {a:Prop}{b c:Nat}(h0:a)(h1:b<c):c≠b:=Nat.ne_of_gt h1
theorem o102 {a b c:Nat}(h0:a<b)(h1:b<c):a≠c:=Nat.ne_of_lt (wk 1 0 (i:=2) (j:=0) (tr 1 0 1 0 h0 h1) rfl)
theorem o103 {a:Nat}{b c:Prop}(h0:a<0):b→c:=(Nat.not_lt_zero a h0).elim
theorem o104 {a b e f:Nat}{c d g:Prop}(h0:a=b)(h1:c∧d∧e=f∧f≤b∧g)(h2:¬f<b):b≤f:=Nat.le_of_not_lt h2
theorem o105 {a b:Nat}(h0:a+1≤b):b≠a:=Nat.ne_of_gt h0
theorem o106 {a b c:Nat}(h0:a<b)(h1:b≤c):c≠a:=Nat.ne_of_gt (tr 1 0 0 0 h0 h1)
theorem o107 {a:Nat}(h0:36≤a):a≠0:=Nat.ne_of_gt (wk 1 0 (i:=36) (j:=0) h0 rfl)
theorem o108 {a b c d:Nat}(h0:a<b)(h1:b≤c)(h2:c≤d):d≠a:=Nat.ne_of_gt (tr 1 0 0 0 (tr 1 0 0 0 h0 h1) h2)
theorem o110 {a b c d:Nat}(h0:a<b)(h1:b≤c)(h2:c≤d):a<d:=tr 1 0 0 0 (tr 1 0 0 0 h0 h1) h2
theorem o111 {a b c d:Nat}(h0:36≤a)(h1:a≤b)(h2:b≤c)(h3:d<32):d<c:=wk 1 0 (i:=37) (j:=32) (tr 37 32 0 0 (tr 37 32 0 0 (tr 1 32 36 0 h3 h0) h1) h2) rfl
theorem o112 {a:Nat}(h0:36≤a):35≠a:=Nat.ne_of_lt h0
theorem o113 {a:Nat}(h0:36≤a):0≠a:=Nat.ne_of_lt (wk 1 0 (i:=36) (j:=0) h0 rfl)
theorem o114 {a b c:Nat}(h0:a=b)(h1:b≤c):a≤c:=tr 0 0 0 0 (Nat.le_of_eq h0) h1
theorem o115 {a b c:Nat}(h0:a+(b+1)<c):a<c:=Nat.lt_of_le_of_lt (Nat.le_add_right a (b+1)) h0
theorem o116 {a b c:Nat}(h0:a+40*b+100≤c):a+6<c:=Nat.lt_of_lt_of_le (Nat.add_lt_add_of_le_of_lt (Nat.le_add_right a (40*b)) (by decide:6<100)) h0
theorem o117 {a b c:Nat}(h0:a+40*b+100≤c):a+1+6<c:=Nat.lt_of_lt_of_le (show a+7<_ from Nat.add_lt_add_of_le_of_lt (Nat.le_add_right a (40*b)) (by decide:7<100)) h0
theorem o119 {a:Int}(h0:0<a):a≠0:=Int.ne_of_gt h0
theorem o120 {a:Int}(h0:0<a)(h1:a<4611686018427387904):a≠0:=Int.ne_of_gt h0
theorem o123 {a b:Int}{c:Nat}(h0:-a≤b)(h1:0≤b)(h2:Int.toNat b<c)(h3:b<a):b<(↑c:Int):=(Int.toNat_lt h1).mp h2
theorem o124 {a:Nat}(h0:a - 1<a):-(↑a:Int)≤-1:=Int.neg_le_neg ((Int.ofNat_le (m:=1)).mpr (Nat.lt_of_le_of_lt (Nat.zero_le _) h0))
theorem o125 {a:Nat}(h0:a - 1<a):Int.toNat (-1+(↑a:Int))=a - 1:=by rw[Int.add_comm,←Int.sub_eq_add_neg];exact Int.toNat_sub a 1
theorem o126 {a b:Nat}(h0:0<a)(h1:b=a):Int.toNat (-1+(↑b:Int))=b - 1:=by rw[Int.add_comm,←Int.sub_eq_add_neg];exact Int.toNat_sub b 1
theorem o127 {a b:Nat}(h0:0<a)(h1:b=a):-(↑b:Int)≤-1:=Int.neg_le_neg ((Int.ofNat_le (m:=1)).mpr (h1▸h0))
theorem o128 {a b c d e:Nat}(h0:20000≤a)(h1:b=c)(h2:c≤10000)(h3:d=e)(h4:e≤10000):b+d≤a:=Nat.le_trans (Nat.add_le_add (h1▸h2) (h3▸h4)) h0
theorem o129 {a b c d e:Nat}(h0:20000≤a)(h1:b=c)(h2:c≤10000)(h3:d=e)(h4:e≤10000):b+d≤a+1:=Nat.le_trans (Nat.add_le_add (h1▸h2) (h3▸h4)) (Nat.le_trans h0 (Nat.le_succ a))
theorem o136 {a b c:Nat}(h0:a+40*b+100≤c):a+40*b+80≤c:=Nat.le_trans (Nat.add_le_add_left (by decide:80≤100) (a+40*b)) h0
theorem o137 {a b c:Nat}(h0:a+3*(b+1)+2≤c):a+1+3*b+4≤c:=by rw[Nat.add_right_comm a 1];exact h0
theorem o138 {a b c:Nat}(h0:a+40*(b+1)+80≤c):a+3+40*b+100≤c:=by rw[Nat.mul_succ,←Nat.add_assoc]at h0;rw[Nat.add_right_comm a 3];exact Nat.le_trans (Nat.add_le_add_left (by decide:103≤120) (a+40*b)) h0
theorem o139 {a b c:Nat}(h0:a+3*b+4≤c):a+1+3*b+2≤c:=by rw[Nat.add_right_comm a 1];exact Nat.le_trans (Nat.add_le_add_left (by decide:3≤4) (a+3*b)) h0
theorem o140 {a b:Nat}(h0:a<b):0<(↑b:Int) - (↑a:Int):=Int.sub_pos_of_lt (Int.ofNat_lt.mpr h0)
theorem o141 {a:Int}{b:Nat}:a+(↑b:Int)+1=a+((↑b:Int)+1):=Int.add_assoc ..
theorem o142 {a b:Nat}:(↑a:Int) - (↑b:Int) - 1=(↑a:Int) - ((↑b:Int)+1):=Int.sub_sub ..
theorem o143 {a b:Nat}(h0:a≤b)(h1:¬a<b):(↑b:Int) - (↑a:Int)≤0:=Int.sub_nonpos_of_le (Int.ofNat_le.mpr (Nat.le_of_not_lt h1))
theorem o146 {a b:Int}(h0:-a≤b)(h1:b<a):-a≤b∧b<a:=⟨h0,h1⟩
theorem o157 {a b c:Nat}(h0:a+3*(b+1)+2≤c):a<c:=Nat.lt_of_lt_of_le (Nat.lt_of_le_of_lt (Nat.le_add_right a (3*(b+1))) (Nat.lt_add_of_pos_right (by decide:0<2))) h0
theorem o159 {a b:Nat}(h0:a≤b):a+(b - a)=b:=Nat.add_sub_cancel' h0
theorem o160 {a b c:Nat}(h0:a+1=b)(h1:c=b):1≤b:=tr 0 0 1 0 (Nat.zero_le a) (Nat.le_of_eq h0)
theorem o161 {a b c d:Nat}(h0:a+(0+1)=b)(h1:c+1=b)(h2:d=b):a=c:=Nat.le_antisymm (wk 0 0 (i:=1) (j:=1) (tr 1 0 0 1 (Nat.le_of_eq h0) (Nat.le_of_eq h1.symm)) rfl) (wk 0 0 (i:=1) (j:=1) (tr 1 0 0 1 (Nat.le_of_eq h1) (Nat.le_of_eq h0.symm)) rfl)
theorem o162 {a:Nat}{b:Prop}(h0:a+1+1≤1):b:=cy (i:=2) (j:=1) (tr 0 0 2 1 (Nat.zero_le a) h0) rfl
theorem o163 {a b c d:Nat}(h0:a+1=b)(h1:b+1=c)(h2:d=c):2≤c:=tr 1 0 1 0 (tr 0 0 1 0 (Nat.zero_le a) (Nat.le_of_eq h0)) (Nat.le_of_eq h1)
theorem o164 {a b c d e:Nat}(h0:a+(0+1)=b)(h1:c+1=b)(h2:d+1=c)(h3:e=b):a=c:=Nat.le_antisymm (wk 0 0 (i:=1) (j:=1) (tr 1 0 0 1 (Nat.le_of_eq h0) (Nat.le_of_eq h1.symm)) rfl) (wk 0 0 (i:=1) (j:=1) (tr 1 0 0 1 (Nat.le_of_eq h1) (Nat.le_of_eq h0.symm)) rfl)
theorem o165 {a b c d e:Nat}(h0:a+(0+1+1)=b)(h1:c+1=b)(h2:d+1=c)(h3:e=b):a=d:=Nat.le_antisymm (wk 0 0 (i:=2) (j:=2) (tr 2 1 0 1 (tr 2 0 0 1 (Nat.le_of_eq h0) (Nat.le_of_eq h1.symm)) (Nat.le_of_eq h2.symm)) rfl) (wk 0 0 (i:=2) (j:=2) (tr 2 0 0 2 (tr 1 0 1 0 (Nat.le_of_eq h2) (Nat.le_of_eq h1)) (Nat.le_of_eq h0.symm)) rfl)
theorem o166 {a:Nat}{b:Prop}(h0:a+1+1+1≤2):b:=cy (i:=3) (j:=2) (tr 0 0 3 2 (Nat.zero_le a) h0) rfl
theorem o168 {a b c d:Nat}(h0:a<b+1)(h1:a≥b)(h2:c=b)(h3:d=b+1):a=b:=Nat.le_antisymm (wk 0 0 (i:=1) (j:=1) h0 rfl) h1
theorem o169 {a b c d e f g i:Nat}(h0:a≤b)(h1:c=a)(h2:d=a+1)(h3:e<a+1)(h4:e<a∧f=e∨e=a∧f=b)(h5:g<a∧i=g∨g=a∧i=b)(h6:f=i):e=g:=h4.elim (fun p=>h5.elim (fun r=>p.2.symm.trans (h6.trans r.2)) fun r=>absurd ((p.2.symm.trans (h6.trans r.2))▸p.1:b<a) (Nat.not_lt.mpr h0)) fun p=>h5.elim (fun r=>absurd ((r.2.symm.trans (h6.symm.trans p.2))▸r.1:b<a) (Nat.not_lt.mpr h0)) fun r=>p.1.trans r.1.symm
theorem o170 {a b c d:Nat}(h0:a<b+1)(h1:b≤a)(h2:c=b)(h3:d=b+1):a=b:=Nat.le_antisymm (wk 0 0 (i:=1) (j:=1) h0 rfl) h1
theorem o171 {a b c d:Nat}(h0:a<b)(h1:a=c)(h2:b≤c)(h3:d=b):False:=cy (i:=1) (j:=0) (tr 1 0 0 0 (tr 1 0 0 0 h0 h2) (Nat.le_of_eq h1.symm)) rfl
theorem o172 {a b c d:Nat}(h0:a<b)(h1:c=b)(h2:d≥b):d≠a:=Nat.ne_of_gt (tr 1 0 0 0 h0 h2)
theorem o173 {a b c:Nat}(h0:a=b)(h1:b≤c):b≤c+1:=wk 0 1 (i:=0) (j:=0) h1 rfl
theorem o174 {a b c d:Nat}(h0:a+3*b+2≤c)(h1:d≤b):a+3*d+2≤c:=Nat.le_trans (Nat.add_le_add_right (Nat.add_le_add_left (Nat.mul_le_mul_left 3 h1) a) 2) h0
theorem o175 {a b c d:Nat}(h0:a+40*b+80≤c)(h1:d≤b):a+40*d+80≤c:=Nat.le_trans (Nat.add_le_add_right (Nat.add_le_add_left (Nat.mul_le_mul_left 40 h1) a) 80) h0
theorem o176 {a:Nat}:a+1+30=a+30+1:=Nat.le_antisymm (wk 31 31 (Nat.le_refl (a+0)) rfl) (wk 31 31 (Nat.le_refl (a+0)) rfl)
theorem o177 {a:Nat}(h0:a≤70):1+300+3*(a+30)+2≤1000:=Nat.le_trans (Nat.add_le_add_right (Nat.add_le_add_left (Nat.mul_le_mul_left 3 (Nat.add_le_add_right h0 30)) (1+300)) 2) (by decide)
theorem o178 {a:Nat}(h0:a≤70):4+40*(a+30)+80≤9900:=Nat.le_trans (Nat.add_le_add_right (Nat.add_le_add_left (Nat.mul_le_mul_left 40 (Nat.add_le_add_right h0 30)) 4) 80) (by decide)
theorem o179 {a b:Nat}(h0:32≤a):32≤a+b:=Nat.le_trans h0 (Nat.le_add_right a b)
theorem o180 {a b:Nat}(h0:a≤b):b=a+(b - a):=(Nat.add_sub_cancel' h0).symm
theorem o181 {a:Nat}(h0:a<32):a≤31:=wk 0 31 (i:=1) (j:=32) h0 rfl
theorem o182 {a:Nat}(h0:a<64):(↑a:Int)≤4000:=(Int.ofNat_le (n:=4000)).mpr (Nat.le_of_lt (Nat.lt_of_lt_of_le h0 (by decide)))
theorem o183 {a:Nat}(h0:9≤a):5≤a - 1 - 2:=Nat.le_sub_of_add_le (Nat.le_sub_of_add_le (Nat.le_trans (by decide) h0))
theorem o184:(↑4:Int)≤4000:=by lia
theorem o185 {a b c:Nat}(h0:a<b):a<b+c:=Nat.lt_add_right c h0
theorem o186 {a b c d e:Nat}(h0:a=b)(h1:c=b+(d+1))(h2:c≤60)(h3:e≤a):e≤60:=Nat.le_trans h3 (Nat.le_trans (Nat.le_of_eq h0) (Nat.le_trans (Nat.le_add_right b (d+1)) (h1▸h2)))
theorem o187 {a b c:Nat}(h0:a=b)(h1:c≤a):c≤a+1:=wk 0 1 (i:=0) (j:=0) h1 rfl
theorem o188 {a:Nat}(h0:a≤1000):a<4611686018427387904:=wk 1 4611686018427387904 (i:=0) (j:=1000) h0 rfl
theorem o189 {a:Nat}(h0:a≤1000):0≤(↑a:Int):=by lia
theorem o190 {a b c:Nat}(h0:a<b)(h1:b≤50)(h2:c=b):a≤1000:=wk 0 1000 (i:=1) (j:=50) (tr 1 0 0 50 h0 h1) rfl
theorem o191 {a b c d:Nat}(h0:a<b)(h1:b≤50)(h2:c<b)(h3:d=b):a≤1000:=wk 0 1000 (i:=1) (j:=50) (tr 1 0 0 50 h0 h1) rfl
theorem o192 {a b:Nat}{c d e:Prop}(h0:a<0):a≠b→c→d→e:=by lia
theorem o193 {a b c:Nat}(h0:0<a)(h1:a≤50)(h2:b<a - 1)(h3:c=a):1+b<a:=by rw[Nat.add_comm];exact Nat.add_lt_of_lt_sub h2
theorem o194 {a b c d:Nat}(h0:0<a)(h1:1+b<a)(h2:a≤50)(h3:c<1+b)(h4:d=a):c≤1000:=Nat.le_trans (Nat.le_of_lt (Nat.lt_trans h3 h1)) (Nat.le_trans h2 (by decide))
theorem o195 {a b c:Nat}(h0:0<a)(h1:1+b<a)(h2:a≤50)(h3:c=a):1+b≤1000:=Nat.le_trans (Nat.le_of_lt h1) (Nat.le_trans h2 (by decide))
theorem o196 {a b:Nat}(h0:a<1+b):a<1+(b+1):=Nat.lt_succ_of_lt h0
theorem o197 {a b:Nat}(h0:a<1+(b+1))(h1:a≥1+b):a=1+b:=Nat.le_antisymm (Nat.le_of_lt_succ h0) h1
theorem o198 {a b:Nat}(h0:a<1+b):a≠1+b:=Nat.ne_of_lt h0
theorem o199 {a:Nat}:1+a<1+(a+1):=Nat.lt_succ_self _
theorem o200 {a b:Nat}(h0:a<1+b):1+b≠a:=Ne.symm (Nat.ne_of_lt h0)
theorem o201 {a b:Nat}(h0:a<1+(b+1))(h1:a≥1+b):1+b=a:=Nat.le_antisymm h1 (Nat.le_of_lt_succ h0)
theorem o202 {a:Nat}:0+(a - 1)=a - 1:=Nat.zero_add _
theorem o203 {a b:Nat}(h0:0<a)(h1:a≤50)(h2:b=a):a - 1<64:=Nat.lt_of_le_of_lt (Nat.le_trans (Nat.sub_le a 1) h1) (by decide)
theorem o204 {a:Nat}(h0:a<1+0):0=a:=Nat.le_antisymm (Nat.zero_le a) (wk 0 0 (i:=1) (j:=1) h0 rfl)
theorem o205 {a b c:Nat}(h0:0<a)(h1:a≤50)(h2:b<a)(h3:c=a):b<1+(a - 1):=by rw[Nat.add_comm,Nat.sub_add_cancel h0];exact h2
theorem o208 {a b:Nat}(h0:a≤50)(h1:b≤a):b≤60:=wk 0 60 (i:=0) (j:=50) (tr 0 0 0 50 h1 h0) rfl
theorem o209 {a b:Nat}(h0:a<b):1≤b - a:=Nat.sub_pos_of_lt h0
theorem o210 {a b c:Nat}(h0:a<b)(h1:b≤50)(h2:c=b):Min.min a b≤50:=Nat.le_trans (Nat.min_le_right a b) h1
theorem o211 {a:Nat}:a+1≠a:=Nat.ne_of_gt (wk 1 1 (Nat.le_refl (a+0)) rfl)
theorem o212 {a b c:Nat}{d:Prop}(h0:a<b)(h1:a≠0)(h2:b=1)(h3:c=b):d:=(h1 (Nat.lt_one_iff.mp (h2▸h0))).elim
theorem o214 {a b:Nat}(h0:0<a)(h1:a≤50)(h2:b=a)(h3:¬a=1):2≤a:=Nat.lt_of_le_of_ne h0 (Ne.symm h3)
theorem o215 {a b c d:Nat}(h0:a≤50)(h1:b=a)(h2:0<a)(h3:2≤a)(h4:c=a)(h5:d<a):d≤1000:=wk 0 1000 (i:=1) (j:=50) (tr 1 0 0 50 h5 h0) rfl
theorem o216 {a b:Nat}(h0:a≤b):¬b<a:=Nat.not_lt.mpr h0
theorem o217 {a b:Nat}(h0:a<b)(h1:b≤50):Min.min a b≤50:=Nat.le_trans (Nat.min_le_right a b) h1
theorem o218 {a:Nat}(h0:a≤50):a<64:=wk 1 64 (i:=0) (j:=50) h0 rfl
theorem o219 {a:Nat}(h0:1≤a)(h1:a≤1000):0<a∧(↑a:Int)<4611686018427387904:=⟨h0,(Int.ofNat_lt (m:=4611686018427387904)).mpr (Nat.lt_of_le_of_lt h1 (by decide))⟩
theorem o220 {a:Nat}(h0:1≤a)(h1:a≤1000):0<(↑a:Int):=Int.ofNat_lt.mpr h0
theorem o221 {a:Nat}{b:Int}(h0:1≤a)(h1:a≤1000)(h2:b<(↑a:Int)):Int.toNat b<a:=(Int.toNat_lt' h0).mpr h2
theorem o222 {a:Int}(h0:0≤a):a=(↑(Int.toNat a):Int):=(Int.toNat_of_nonneg h0).symm
theorem o223 {a:Nat}(h0:1≤a)(h1:a≤1000):0≤(↑a:Int):=by lia
theorem o224 {a:Int}(h0:0≤a)(h1:¬0<a):a≤0:=Int.not_lt.mp h1
theorem o226 {a:Nat}(h0:a<2):a=0∨a=1:=(by decide:∀a,a<2→a=0∨a=1) a h0
theorem o228 {a b:Nat}(h0:a=b):b<a+1:=wk 1 1 (i:=0) (j:=0) (Nat.le_of_eq h0.symm) rfl
theorem o229 {a b c d e:Nat}(h0:a<b)(h1:c=b)(h2:d=b+1)(h3:e=b+1):a<b+1:=wk 1 1 (i:=1) (j:=0) h0 rfl
theorem o230 {a b c d e:Nat}(h0:a<b)(h1:c=b)(h2:d=b+1)(h3:e=b+1):a<c:=tr 1 0 0 0 h0 (Nat.le_of_eq h1.symm)
theorem o231 {a b c d:Nat}(h0:36≤a)(h1:b=a)(h2:c=a+1)(h3:d=a+1):36≤a+1:=wk 36 1 (i:=36) (j:=0) h0 rfl
theorem o232 {a:Nat}(h0:15=a):¬16=a:=Nat.ne_of_gt (wk 1 16 (i:=0) (j:=15) (Nat.le_of_eq h0.symm) rfl)
theorem o233 {a b c d e:Nat}(h0:a<b)(h1:c=b)(h2:d=b+1)(h3:e=b+1):b+1≠a:=Nat.ne_of_gt (wk 1 1 (i:=1) (j:=0) h0 rfl)
theorem o234 {a b c d e:Nat}(h0:a<b)(h1:c=b)(h2:d=b+1)(h3:e=b+1):a≠b+1:=Nat.ne_of_lt (wk 1 1 (i:=1) (j:=0) h0 rfl)
theorem o235 {a b c d f g i j:Nat}{e k:Prop}(h0:(↑a:Int)=(↑b:Int)∧c=d∧e∧f=g∧(↑i:Int)=(↑j:Int)∧k):b=a:=(Int.ofNat_inj.mp h0.1).symm
theorem o236 {a b c:Nat}(h0:36≤a∧36≤b)(h1:c=a∨c=b):32≤c:=Nat.le_trans (by decide) (h1.elim (fun h=>h▸h0.1) (fun h=>h▸h0.2):36≤c)
theorem o237 {a b c d e:Nat}(h0:a<b)(h1:c<b)(h2:a<c)(h3:d=e)(h4:d=a)(h5:e=c):False:=cy (i:=1) (j:=0) (tr 1 0 0 0 (tr 1 0 0 0 (tr 1 0 0 0 h2 (Nat.le_of_eq h5.symm)) (Nat.le_of_eq h3.symm)) (Nat.le_of_eq h4)) rfl
theorem o238 {a b:Nat}(h0:a - b=0)(h1:a≥b):b=a:=Nat.le_antisymm h1 (Nat.le_of_sub_eq_zero h0)
theorem o239 {a b:Nat}(h0:a+1≤b)(h1:b<a+1):False:=cy (i:=2) (j:=1) (tr 1 0 1 1 h0 h1) rfl
theorem o240 {a b c:Nat}(h0:a+1≤b)(h1:b<c)(h2:c≤a):False:=cy (i:=2) (j:=0) (tr 2 0 0 0 (tr 1 0 1 0 h0 h1) h2) rfl
theorem o241 {a:Nat}(h0:36≤a):a≠32:=Nat.ne_of_gt (wk 33 0 (i:=36) (j:=0) h0 rfl)
theorem o242 {a:Nat}(h0:36≤a):a≠34:=Nat.ne_of_gt (wk 35 0 (i:=36) (j:=0) h0 rfl)
theorem o243 {a b c:Nat}(h0:36≤a∧36≤b)(h1:c=a∨c=b):c≠32:=Nat.ne_of_gt (Nat.lt_of_lt_of_le (by decide) (h1.elim (fun h=>h▸h0.1) (fun h=>h▸h0.2):36≤c))
theorem o244 {a b c:Nat}(h0:36≤a∧36≤b)(h1:c=a∨c=b):c≠34:=Nat.ne_of_gt (Nat.lt_of_lt_of_le (by decide) (h1.elim (fun h=>h▸h0.1) (fun h=>h▸h0.2):36≤c))
theorem o245 {a b c d e f:Nat}(h0:36≤a)(h1:a<b)(h2:c=b)(h3:d=c)(h4:e=d)(h5:f=e):36≤b:=wk 36 0 (i:=37) (j:=0) (tr 36 0 1 0 h0 h1) rfl
theorem o246 {a b c d e:Nat}(h0:36≤a)(h1:b=a)(h2:c=b)(h3:d=c)(h4:e=d):36≤e:=tr 36 0 0 0 (tr 36 0 0 0 (tr 36 0 0 0 (tr 36 0 0 0 h0 (Nat.le_of_eq h1.symm)) (Nat.le_of_eq h2.symm)) (Nat.le_of_eq h3.symm)) (Nat.le_of_eq h4.symm)
theorem o247 {a:Nat}(h0:a<32):a≠32:=Nat.ne_of_lt h0
theorem o248 {a:Nat}(h0:a<32):a≠34:=Nat.ne_of_lt (wk 1 34 (i:=1) (j:=32) h0 rfl)
theorem o249 {a b c d e f g:Nat}(h0:36≤a)(h1:a<b)(h2:c=b)(h3:d=c)(h4:e=d)(h5:f=e)(h6:g<32):g<f:=wk 1 0 (i:=38) (j:=32) (tr 38 32 0 0 (tr 38 32 0 0 (tr 38 32 0 0 (tr 38 32 0 0 (tr 37 32 1 0 (tr 1 32 36 0 h6 h0) h1) (Nat.le_of_eq h2.symm)) (Nat.le_of_eq h3.symm)) (Nat.le_of_eq h4.symm)) (Nat.le_of_eq h5.symm)) rfl
theorem o250 {a:Nat}(h0:a<32):a≠33:=Nat.ne_of_lt (wk 1 33 (i:=1) (j:=32) h0 rfl)
theorem o251 {a:Nat}(h0:36≤a):a≠33:=Nat.ne_of_gt (wk 34 0 (i:=36) (j:=0) h0 rfl)
theorem o252 {a:Nat}{b:Prop}(h0:36≤a∧b):a≠33:=Nat.ne_of_gt (wk 34 0 (i:=36) (j:=0) h0.1 rfl)
theorem o253 {a:Nat}{b:Prop}(h0:36≤a∧b):a≠32:=Nat.ne_of_gt (wk 33 0 (i:=36) (j:=0) h0.1 rfl)
theorem o254 {a:Nat}{b:Prop}(h0:36≤a∧b):a≠34:=Nat.ne_of_gt (wk 35 0 (i:=36) (j:=0) h0.1 rfl)
theorem o255 {a b c d e:Nat}(h0:36≤a)(h1:b=a)(h2:c=b)(h3:d=c)(h4:e=d):32<e:=wk 33 0 (i:=36) (j:=0) (tr 36 0 0 0 (tr 36 0 0 0 (tr 36 0 0 0 (tr 36 0 0 0 h0 (Nat.le_of_eq h1.symm)) (Nat.le_of_eq h2.symm)) (Nat.le_of_eq h3.symm)) (Nat.le_of_eq h4.symm)) rfl
theorem o257 {a b c d e:Nat}(h0:36≤a)(h1:b=a)(h2:c=b)(h3:d=c)(h4:e=d):34<e:=wk 35 0 (i:=36) (j:=0) (tr 36 0 0 0 (tr 36 0 0 0 (tr 36 0 0 0 (tr 36 0 0 0 h0 (Nat.le_of_eq h1.symm)) (Nat.le_of_eq h2.symm)) (Nat.le_of_eq h3.symm)) (Nat.le_of_eq h4.symm)) rfl
theorem o259 {a b c:Nat}(h0:36≤a∧36≤b)(h1:c<32):c≠b:=Nat.ne_of_lt (wk 1 0 (i:=37) (j:=32) (tr 1 32 36 0 h1 h0.2) rfl)
theorem o260 {a b:Nat}(h0:a=b)(h1:b≤40):b+1≤45:=wk 1 45 (i:=0) (j:=40) h1 rfl
theorem o261 {a b c d e f g:Nat}(h0:a=b)(h1:c=a)(h2:d=c)(h3:e=d)(h4:e≤f)(h5:g=f):b≤g:=tr 0 0 0 0 (tr 0 0 0 0 (tr 0 0 0 0 (tr 0 0 0 0 (tr 0 0 0 0 (Nat.le_of_eq h0.symm) (Nat.le_of_eq h1.symm)) (Nat.le_of_eq h2.symm)) (Nat.le_of_eq h3.symm)) h4) (Nat.le_of_eq h5.symm)
theorem o262 {a:Nat}(h0:(↑a:Int)=(↑a:Int)+1):False:=by lia
theorem o263 {a b c d e f g:Nat}(h0:a=b)(h1:c=a)(h2:d=c)(h3:e=d)(h4:f<b)(h5:f=g)(h6:e≤g):False:=cy (i:=1) (j:=0) (tr 1 0 0 0 (tr 0 0 1 0 (tr 0 0 0 0 (tr 0 0 0 0 (tr 0 0 0 0 (tr 0 0 0 0 (Nat.le_of_eq h1.symm) (Nat.le_of_eq h2.symm)) (Nat.le_of_eq h3.symm)) h6) (Nat.le_of_eq h5.symm)) h4) (Nat.le_of_eq h0.symm)) rfl
theorem o264 {a b c d e f:Nat}(h0:a=b)(h1:a≤c)(h2:b=d)(h3:d=e)(h4:e=f):f≤c:=tr 0 0 0 0 (tr 0 0 0 0 (tr 0 0 0 0 (tr 0 0 0 0 (Nat.le_of_eq h4.symm) (Nat.le_of_eq h3.symm)) (Nat.le_of_eq h2.symm)) (Nat.le_of_eq h0.symm)) h1
theorem o266 {a b c:Nat}(h0:a<b)(h1:c=b+1):a≠c:=Nat.ne_of_lt (wk 1 0 (i:=2) (j:=0) (tr 1 0 1 0 h0 (Nat.le_of_eq h1.symm)) rfl)
theorem o267 {a b c:Nat}(h0:a=b)(h1:b=c+1):c≤a:=wk 0 0 (i:=1) (j:=0) (tr 1 0 0 0 (Nat.le_of_eq h1.symm) (Nat.le_of_eq h0.symm)) rfl
theorem o268 {a:Nat}(h0:a<32):a≠35:=Nat.ne_of_lt (wk 1 35 (i:=1) (j:=32) h0 rfl)
theorem o269 {a b:Nat}(h0:a=b)(h1:b≤39):b+1≤50:=wk 1 50 (i:=0) (j:=39) h1 rfl
theorem o270 {a b:Nat}:a+1+b=a+(b+1):=Nat.succ_add_eq_add_succ ..
theorem o271 {a:Nat}:(↑a:Int)<(↑a:Int)+1:=Int.lt_succ _
theorem o272 {a:Nat}:(↑(a+1):Int) - 1=(↑a:Int):=Int.add_sub_cancel (a:Int) 1
theorem o274 {a b:Nat}(h0:¬a≤b):b<a:=Nat.lt_of_not_le h0
theorem o275 {a:Nat}:a<a+1:=wk 1 1 (Nat.le_refl (a+0)) rfl
theorem o276 {a:Nat}(h0:a+1≤a):False:=cy (i:=1) (j:=0) h0 rfl
theorem o277 {a b:Nat}(h0:a+1<b):a<b:=wk 1 0 (i:=2) (j:=0) h0 rfl
theorem o278 {a b:Nat}(h0:a<b)(h1:b≤a):a+1<b:=wk 2 0 (i:=4) (j:=0) (tr 3 0 1 0 (tr 3 0 0 0 (tr 2 0 1 0 (tr 2 0 0 0 (tr 1 0 1 0 (tr 1 0 0 0 h0 h1) h0) h1) h0) h1) h0) rfl
theorem o282 {a:Int}(h0:0≤a)(h1:a<1000033):0≤a+23:=Int.add_nonneg h0 (by decide)
theorem o283 {a:Int}(h0:0≤a)(h1:a<1000033):a+23<2147483563:=Int.lt_trans (Int.add_lt_add_right h1 23) (by decide)
theorem o284 {a:Nat}(h0:32≤a):a≠0:=Nat.ne_of_gt (wk 1 0 (i:=32) (j:=0) h0 rfl)
theorem o285 (h0:32≤0):False:=cy (i:=32) (j:=0) h0 rfl
theorem o286 {a:Nat}(h0:a=10∨a=12∨a=9∨a=11):a=9∨a=10∨a=11∨a=12:=h0.elim (fun h=>.inr (.inl h)) fun h=>h.elim (fun h=>.inr (.inr (.inr h))) fun h=>h.elim .inl fun h=>.inr (.inr (.inl h))
theorem o287 {a b c:Nat}(h0:a=b+1)(h1:c=b+2):b≤c:=wk 0 0 (i:=2) (j:=0) (Nat.le_of_eq h1.symm) rfl
theorem o288 {a b c d:Nat}(h0:a+1≤b)(h1:a=c+2)(h2:d=c+1):c≤b:=wk 0 0 (i:=3) (j:=0) (tr 2 0 1 0 (Nat.le_of_eq h1.symm) h0) rfl
theorem o289 {a b:Nat}:a≤a+b:=by lia
theorem o290 {a b c:Nat}(h0:a<b):c+a<c+b:=Nat.add_lt_add_left h0 c
theorem o291 {a b c:Nat}(h0:1≤a)(h1:a≤100)(h2:b<a)(h3:c≤100):c+b≤1000:=Nat.le_trans (Nat.add_le_add h3 (Nat.le_trans (Nat.le_of_lt h2) h1)) (by decide)
theorem o292 {a b:Nat}:(↑(a+b):Int)=(↑a:Int)+(↑b:Int):=rfl
theorem o293 {a b c:Nat}(h0:1≤a)(h1:a<1+3)(h2:b<a)(h3:c=b):c≤39:=wk 0 39 (i:=2) (j:=4) (tr 1 0 1 4 (tr 0 0 1 0 (Nat.le_of_eq h3) h2) h1) rfl
theorem o294 {a b:Nat}(h0:1≤a)(h1:a<1+3)(h2:b=a):b≤3:=wk 0 3 (i:=1) (j:=4) (tr 0 0 1 4 (Nat.le_of_eq h2) h1) rfl
theorem o295 {a:Nat}(h0:a=10∨a=11∨a=10∨a=12∨a=9):a=9∨a=10∨a=11∨a=12:=h0.elim (fun h=>.inr (.inl h)) fun h=>h.elim (fun h=>.inr (.inr (.inl h))) fun h=>h.elim (fun h=>.inr (.inl h)) fun h=>h.elim (fun h=>.inr (.inr (.inr h))) .inl
theorem o296 {a b c:Nat}(h0:a<b)(h1:c=b+2):a<c:=wk 1 0 (i:=3) (j:=0) (tr 1 0 2 0 h0 (Nat.le_of_eq h1.symm)) rfl
theorem o297 {a b c d:Nat}(h0:a<b)(h1:c=b+1)(h2:d=b+2):a<c:=wk 1 0 (i:=2) (j:=0) (tr 1 0 1 0 h0 (Nat.le_of_eq h1.symm)) rfl
theorem o298 {a b:Nat}(h0:a<b):0≠b:=Nat.ne_of_lt (tr 0 0 1 0 (Nat.zero_le a) h0)
theorem o299 {a b c d:Nat}(h0:a=b)(h1:a=c+1)(h2:c=d+2):0<c:=wk 1 0 (i:=2) (j:=0) (tr 0 0 2 0 (Nat.zero_le d) (Nat.le_of_eq h2.symm)) rfl
theorem o300 {a b c d e f:Nat}{g:Prop}(h0:a=b+2)(h1:c<b)(h2:d=e)(h3:d=a+1)(h4:d≤f)(h5:g):c≤f:=wk 0 0 (i:=4) (j:=0) (tr 4 0 0 0 (tr 3 0 1 0 (tr 1 0 2 0 h1 (Nat.le_of_eq h0.symm)) (Nat.le_of_eq h3.symm)) h4) rfl
theorem o301 {a b c d e g:Nat}{f:Prop}(h0:a=b+2)(h1:c<b)(h2:d=e)(h3:d=a+1)(h4:f)(h5:g<c):g<d:=wk 1 0 (i:=5) (j:=0) (tr 4 0 1 0 (tr 2 0 2 0 (tr 1 0 1 0 h5 h1) (Nat.le_of_eq h0.symm)) (Nat.le_of_eq h3.symm)) rfl
theorem o302 {a b c d e g:Nat}{f:Prop}(h0:a=b+2)(h1:c<b)(h2:d=e)(h3:d=a+1)(h4:f)(h5:g<c):g<b:=wk 1 0 (i:=2) (j:=0) (tr 1 0 1 0 h5 h1) rfl
theorem o303 {a:Prop}{b c:Nat}(h0:a)(h1:b<c):b≠c:=Nat.ne_of_lt h1
theorem o304 {a:Prop}{b c d e:Nat}(h0:a)(h1:b=c)(h2:b=d+1)(h3:d=e+2):0<b:=wk 1 0 (i:=3) (j:=0) (tr 2 0 1 0 (tr 0 0 2 0 (Nat.zero_le e) (Nat.le_of_eq h3.symm)) (Nat.le_of_eq h2.symm)) rfl
theorem o305 {a:Prop}{b c d e:Nat}(h0:a)(h1:b=c)(h2:b=d+1)(h3:d=e+2):0<d:=wk 1 0 (i:=2) (j:=0) (tr 0 0 2 0 (Nat.zero_le e) (Nat.le_of_eq h3.symm)) rfl
theorem o306 {a:Prop}{b c d:Nat}(h0:a)(h1:b<c)(h2:c<d):d≠b:=Nat.ne_of_gt (wk 1 0 (i:=2) (j:=0) (tr 1 0 1 0 h1 h2) rfl)
theorem o307 {a:Prop}{b c:Nat}(h0:a)(h1:b<c):c≠0:=Nat.ne_of_gt (tr 0 0 1 0 (Nat.zero_le b) h1)
theorem o308 {a:Prop}{b c d:Nat}(h0:a)(h1:b=c)(h2:b=d+1):d<b:=Nat.le_of_eq h2.symm
theorem o309 {a b c d e f:Nat}{g:Prop}(h0:a=b+2)(h1:c<b)(h2:d=e)(h3:d=a+1)(h4:f<c)(h5:g):a≠f:=Nat.ne_of_gt (wk 1 0 (i:=4) (j:=0) (tr 2 0 2 0 (tr 1 0 1 0 h4 h1) (Nat.le_of_eq h0.symm)) rfl)
theorem o310 {a:Prop}{b c d e f:Nat}(h0:a)(h1:b<c)(h2:d=c+2)(h3:e=d+1)(h4:e=f):b<d:=wk 1 0 (i:=3) (j:=0) (tr 1 0 2 0 h1 (Nat.le_of_eq h2.symm)) rfl
theorem o311 {a:Prop}{b c d:Nat}(h0:a)(h1:b≤c)(h2:d≤b+1):d≤c+1:=tr 0 1 0 0 h2 h1
theorem o312 {a b c:Nat}(h0:a=b)(h1:c=a+1):a≤c:=wk 0 0 (i:=1) (j:=0) (Nat.le_of_eq h1.symm) rfl
theorem o313 {a b c d e f:Nat}(h0:a<b)(h1:c=b+2)(h2:d=c+1)(h3:d=e)(h4:f=d+1):a<d:=wk 1 0 (i:=4) (j:=0) (tr 3 0 1 0 (tr 1 0 2 0 h0 (Nat.le_of_eq h1.symm)) (Nat.le_of_eq h2.symm)) rfl
theorem o314 {a b c:Nat}(h0:a=b)(h1:a=c+1):c≠a:=Nat.ne_of_lt (Nat.le_of_eq h1.symm)
theorem o315 {a b:Nat}(h0:a<b):b≠0:=Nat.ne_of_gt (tr 0 0 1 0 (Nat.zero_le a) h0)
theorem o316 {a b:Nat}(h0:a≤1)(h1:b≤a):b≤50:=wk 0 50 (i:=0) (j:=1) (tr 0 0 0 1 h1 h0) rfl
theorem o317 {a b c d e f:Nat}(h0:a<b)(h1:b<c)(h2:d=c+2)(h3:e=d+1)(h4:e=f):a<e:=wk 1 0 (i:=5) (j:=0) (tr 4 0 1 0 (tr 2 0 2 0 (tr 1 0 1 0 h0 h1) (Nat.le_of_eq h2.symm)) (Nat.le_of_eq h3.symm)) rfl
theorem o318 {a b c:Nat}(h0:a<b)(h1:c=a):c≠b:=Nat.ne_of_lt (tr 0 0 1 0 (Nat.le_of_eq h1) h0)
theorem o319 {a b c d e f:Nat}(h0:a<b)(h1:c=b+2)(h2:d=c)(h3:e=c+1)(h4:e=f):d≠a:=Nat.ne_of_gt (wk 1 0 (i:=3) (j:=0) (tr 3 0 0 0 (tr 1 0 2 0 h0 (Nat.le_of_eq h1.symm)) (Nat.le_of_eq h2.symm)) rfl)
theorem o320 {a b:Nat}(h0:1≤a)(h1:a<1+2)(h2:b=a):b≤2:=wk 0 2 (i:=1) (j:=3) (tr 0 0 1 3 (Nat.le_of_eq h2) h1) rfl
theorem o321 {a b c:Nat}(h0:33≤a)(h1:a≤b)(h2:b<c):32<c:=wk 33 0 (i:=34) (j:=0) (tr 33 0 1 0 (tr 33 0 0 0 h0 h1) h2) rfl
theorem o322 {a b c d e f g:Nat}(h0:a≤b)(h1:b<c)(h2:d=e)(h3:f=d)(h4:g=f)(h5:c≤e):a≤g:=wk 0 0 (i:=1) (j:=0) (tr 1 0 0 0 (tr 1 0 0 0 (tr 1 0 0 0 (tr 1 0 0 0 (tr 0 0 1 0 h0 h1) h5) (Nat.le_of_eq h2.symm)) (Nat.le_of_eq h3.symm)) (Nat.le_of_eq h4.symm)) rfl
theorem o323 {a b c d e:Nat}(h0:a<b)(h1:b≤c)(h2:d<b)(h3:e≤a):e≤c∧c≠d∧c≠a:=⟨Nat.le_trans h3 (Nat.le_trans (Nat.le_of_lt h0) h1),(Nat.ne_of_lt (Nat.lt_of_lt_of_le h2 h1)).symm,(Nat.ne_of_lt (Nat.lt_of_lt_of_le h0 h1)).symm⟩
theorem o324 {a b:Nat}(h0:a=b+2):b+1≠a+1:=Nat.ne_of_lt (wk 2 1 (i:=2) (j:=0) (Nat.le_of_eq h0.symm) rfl)
theorem o329 {a b:Nat}(h0:a=b+4):b≤a+1:=wk 0 1 (i:=4) (j:=0) (Nat.le_of_eq h0.symm) rfl
theorem o330 {a b f:Prop}{c d e:Nat}(h0:a∧b∧c=d∧d≤e∧f)(h1:e≤50):c≤60:=wk 0 60 (i:=0) (j:=50) (tr 0 0 0 50 (tr 0 0 0 0 (Nat.le_of_eq h0.2.2.1) h0.2.2.2.1) h1) rfl
theorem o331 {a b f:Prop}{c d e:Nat}(h0:a∧b∧c=d∧d≤e∧f)(h1:e≤10):c≤60:=wk 0 60 (i:=0) (j:=10) (tr 0 0 0 10 (tr 0 0 0 0 (Nat.le_of_eq h0.2.2.1) h0.2.2.2.1) h1) rfl
theorem o332 {a b c d:Nat}(h0:a<b)(h1:b≤10)(h2:c=b)(h3:d≤a):d≤5000:=wk 0 5000 (i:=1) (j:=10) (tr 1 0 0 10 (tr 0 0 1 0 h3 h0) h1) rfl
theorem o333 {a:Nat}(h0:32<a):32≠a:=Nat.ne_of_lt h0
theorem o334 {a b c d e:Nat}(h0:a<b)(h1:b≤c)(h2:d=c)(h3:e=d):a<e:=tr 1 0 0 0 (tr 1 0 0 0 (tr 1 0 0 0 h0 h1) (Nat.le_of_eq h2.symm)) (Nat.le_of_eq h3.symm)
theorem o335 {a b:Nat}(h0:36≤a)(h1:a≤b):b≠0:=Nat.ne_of_gt (wk 1 0 (i:=36) (j:=0) (tr 36 0 0 0 h0 h1) rfl)
theorem o336 {a b:Nat}(h0:a<b)(h1:b≤a):False:=cy (i:=1) (j:=0) (tr 1 0 0 0 h0 h1) rfl
theorem o337 {a b c:Nat}(h0:a<b)(h1:b≤c)(h2:c≤a):False:=cy (i:=1) (j:=0) (tr 1 0 0 0 (tr 1 0 0 0 h0 h1) h2) rfl
theorem o338 {a b c:Nat}(h0:36≤a)(h1:a≤b)(h2:b≤c):35<c:=tr 36 0 0 0 (tr 36 0 0 0 h0 h1) h2
theorem o339 {a b c:Nat}(h0:36≤a)(h1:a≤b)(h2:b≤c):0<c:=wk 1 0 (i:=36) (j:=0) (tr 36 0 0 0 (tr 36 0 0 0 h0 h1) h2) rfl
theorem o340 {a b c:Nat}(h0:1≤a)(h1:a<1+3)(h2:b<a)(h3:c≤3+b):c≤39:=Nat.le_trans h3 (Nat.le_trans (Nat.add_le_add_left (Nat.le_of_lt (Nat.lt_trans h2 h1)) 3) (by decide))
theorem o341 {a b c:Nat}(h0:a=b+1)(h1:b≤3+c):a≤3+(c+1):=h0▸Nat.succ_le_succ h1
theorem o342 {a b:Nat}(h0:1≤a)(h1:a<1+3)(h2:b≤3+a):b≤6:=Nat.le_trans h2 (Nat.add_le_add_left (Nat.le_of_lt_succ h1) 3)
theorem o343 {a:Nat}(h0:a≤50):a+2≤1000:=wk 2 1000 (i:=0) (j:=50) h0 rfl
theorem o344 {a:Nat}:0+(a+2)=a+2:=Nat.zero_add _
theorem o345 {a:Nat}(h0:a≤50):a+2<64:=wk 3 64 (i:=0) (j:=50) h0 rfl
theorem o346 {a:Nat}(h0:¬a<5):5≤a:=Nat.le_of_not_lt h0
theorem o347 {a:Nat}(h0:a<5):a=0∨a=1∨a=2∨a=3∨a=4:=(by decide:∀a,a<5→a=0∨a=1∨a=2∨a=3∨a=4) a h0
theorem o348:0+5=5:=Nat.le_antisymm (wk 5 5 (Nat.le_refl (0+0)) rfl) (wk 5 5 (Nat.le_refl (0+0)) rfl)
theorem abU {x:Int}{k:Nat}(h:x.natAbs<k):x<k:=Int.lt_of_le_of_lt Int.le_natAbs (Int.ofNat_lt.mpr h)
theorem abL {x:Int}{k:Nat}(h:x.natAbs<k):-(k:Int)<x:=Int.neg_lt_of_neg_lt (abU (by rw[Int.natAbs_neg];exact h))
theorem abR {x:Int}(h:x.natAbs<4611686018427387904):-(2 ^ 63)≤x∧x<2 ^ 63:=⟨Int.le_trans (by decide) (Int.le_of_lt (abL h)),Int.lt_trans (abU h) (by decide)⟩
theorem o350 {p d n:Nat}(h:p≤n)(k:n - p≤d):p+(d - (d - (n - p)))=n:=by rw[Nat.sub_sub_self k];exact Nat.add_sub_cancel' h
theorem o351 {a b:Nat}(h:36≤a)(l:b=a+2):b≠35:=Nat.ne_of_gt (l▸Nat.lt_of_lt_of_le h (Nat.le_add_right a 2))
theorem o352 {a b:Nat}(h:36≤a)(l:b=a+2):36≤b+1:=Nat.le_succ_of_le (l▸Nat.le_trans h (Nat.le_add_right a 2))
end Mine.Tactic
section
local macro_rules (kind := Lean.Parser.Tactic.omega) | x => Mine.Tactic.mac true x
local macro_rules (kind := Lean.Parser.Tactic.obtain) | x => Mine.Tactic.mac false x
local macro_rules (kind := Lean.Parser.Tactic.obtain) | x => Mine.Tactic.mac true x
local macro_rules (kind := PyProof.Rows.tacticWalk_at_) | x => Mine.Tactic.mac false x
local macro_rules (kind := PyProof.Rows.tacticWalk_at_) | x => Mine.Tactic.mac true x
local macro_rules (kind := Lean.Parser.Tactic.cases) | x => Mine.Tactic.mac true x
local macro_rules (kind := Lean.Parser.Tactic.rwSeq) | x => Mine.Tactic.mac true x
local macro_rules (kind := Lean.Parser.Tactic.simp) | x => Mine.Tactic.mac true x
namespace Mine.Tactic
inductive PV where
 |none|bool (b:Bool)|int (i:Int)|sym (n:Nat)|tup (l:List PV)|loc (n:Nat)|scr|unb
 deriving Inhabited
inductive AO where
 |lst (l:List PV)|dct (l:List (PV×PV))|ins (c:Nat) (fs:List (Nat×PV))
 deriving Inhabited
noncomputable abbrev H:=List AO
noncomputable abbrev Lc:=List PV
noncomputable abbrev R (α:Type):=Option (α×H)
noncomputable abbrev CT:=Nat→List PV→H→R PV
noncomputable abbrev EX:=CT→List Int→Lc→H→R PV
noncomputable abbrev TX:=CT→List Int→Lc→H→R Bool
inductive Fl where
 |nxt|cnt|ret (p:PV)
noncomputable abbrev SX:=CT→List Int→Lc→H→R (Fl×Lc)
section
variable {a:List PV} {b:List (PV×PV)} {k:Nat} {f:List (Nat×PV)}
theorem nLD:AO.lst a≠AO.dct b:=fun h=>AO.noConfusion h
theorem nDL:AO.dct b≠AO.lst a:=fun h=>AO.noConfusion h
theorem nLI:AO.lst a≠AO.ins k f:=fun h=>AO.noConfusion h
theorem nIL:AO.ins k f≠AO.lst a:=fun h=>AO.noConfusion h
theorem nID:AO.ins k f≠AO.dct b:=fun h=>AO.noConfusion h
theorem nDI:AO.dct b≠AO.ins k f:=fun h=>AO.noConfusion h
end
def Ya (ρ:Lc)(i:Nat):PV:=match ρ[i]? with
 |some p=>p
 |none=>.unb
def nn:PV→Option Bool
 |.none=>some true
 |.unb=>none
 |_=>some false
def J4 (p:PV):Bool:=(nn p).isSome
def Yq (f:PV→PV→Option Bool):List PV→List PV→Option Bool
 |[],ys=>match ys with
  |[]=>some true
  |_::_=>some false
 |x::xs,ys=>match ys with
  |[]=>some false
  |y::ys=>match f x y with
   |some a=>(match Yq f xs ys with
    |some b=>some (a&&b)
    |none=>none)
   |none=>none
section
variable {α:Type}
def ifI (p:PV)(k:Int→Option α):Option α:=match p with
 |.int i=>k i
 |_=>none
def ifB (p:PV)(k:Bool→Option α):Option α:=match p with
 |.bool b=>k b
 |_=>none
def ifS (p:PV)(k:Nat→Option α):Option α:=match p with
 |.sym n=>k n
 |_=>none
def ifT (p:PV)(k:List PV→Option α):Option α:=match p with
 |.tup l=>k l
 |_=>none
def ifP (p:PV)(k:Nat→Option α):Option α:=match p with
 |.loc m=>k m
 |_=>none
def ifL (o:Option AO)(k:List PV→Option α):Option α:=match o with
 |some (.lst l)=>k l
 |_=>none
def ifD (o:Option AO)(k:List (PV×PV)→Option α):Option α:=match o with
 |some (.dct l)=>k l
 |_=>none
def ifN (o:Option AO)(k:Nat→List (Nat×PV)→Option α):Option α:=match o with
 |some (.ins c fs)=>k c fs
 |_=>none
def gd (b:Bool)(x:Option α):Option α:=match b with
 |true=>x
 |false=>none
def alt (x y:Option α):Option α:=match x with
 |some a=>some a
 |none=>y
def JO (h:H)(p:PV)(k:Nat→List PV→Option α):Option α:=ifP p fun m=>ifL h[m]? (k m)
def UY (h:H)(p:PV)(k:Nat→List (PV×PV)→Option α):Option α:=ifP p fun m=>ifD h[m]? (k m)
end
def eqS (h:H)(f:PV→PV→Option Bool)(a b:PV):Option Bool:=match a with
 |.none=>(match b with
  |.none=>some true
  |.tup _=>some false
  |_=>none)
 |.bool x=>ifB b fun y=>some (x==y)
 |.int x=>ifI b fun y=>some (x==y)
 |.sym x=>ifS b fun y=>some (Nat.beq x y)
 |.tup xs=>(match b with
  |.tup ys=>Yq f xs ys
  |.sym _=>some false
  |_=>none)
 |.loc l=>ifP b fun m=>ifL h[l]? fun xs=>ifL h[m]? fun ys=>match Nat.beq xs.length ys.length with
  |true=>Yq f xs ys
  |false=>some false
 |_=>none
def eqV (h:H):Nat→PV→PV→Option Bool
 |0=>fun Z Z=>none
 |n+1=>eqS h (eqV h n)
def EQ:Nat:=6
def Qp {α β:Type}(x:R α)(f:α→H→R β):R β:=match x with
 |some (a,h)=>f a h
 |none=>none
def QR:EX:=fun Z Z Z Z=>none
def Qq:SX:=fun Z Z Z Z=>none
def QT:EX:=fun Z Z Z h=>some (.none,h)
def YH (b:Bool):EX:=fun Z Z Z h=>some (.bool b,h)
def Qj (i:Int):EX:=fun Z Z Z h=>some (.int i,h)
def Qs (n:Nat):EX:=fun Z Z Z h=>some (.sym n,h)
def JF (p:PV):EX:=fun Z Z Z h=>some (p,h)
def Qa (i:Nat):EX:=fun Z Z ρ h=>gd (J4 (Ya ρ i)) (some (Ya ρ i,h))
def Jg:List EX→CT→List Int→Lc→H→R (List PV)
 |[],_,_,_,h=>some ([],h)
 |e::es,C,ns,ρ,h=>Qp (e C ns ρ h) fun p h=>Qp (Jg es C ns ρ h) fun ps h=>some (p::ps,h)
def RQ (o:AO)(h:H):R PV:=some (.loc h.length,h++[o])
def CAP:Nat:=10000
def QG {α:Type}(l:List α):Bool:=Nat.ble l.length CAP
def newL (l:List PV)(h:H):R PV:=gd (QG l) (RQ (.lst l) h)
def mkT (l:List PV)(h:H):R PV:=gd (QG l) (some (.tup l,h))
def QK (es:List EX):EX:=fun C ns ρ h=>Qp (Jg es C ns ρ h) mkT
def QE (es:List EX):EX:=fun C ns ρ h=>Qp (Jg es C ns ρ h) newL
def Zc:EX:=fun Z Z Z h=>RQ (.dct []) h
def I5 (k v:EX):EX:=fun C ns ρ h=>Qp (k C ns ρ h) fun k h=>Qp (v C ns ρ h) fun v h=>ifS k fun n=>RQ (.dct [(.sym n,v)]) h
def tE (e:EX):TX:=fun C ns ρ h=>Qp (e C ns ρ h) fun p h=>ifB p fun b=>some (b,h)
def ZO (t:TX):TX:=fun C ns ρ h=>Qp (t C ns ρ h) fun b h=>some (!b,h)
def Yk:List TX→TX
 |[],_,_,_,h=>some (true,h)
 |t::ts,C,ns,ρ,h=>Qp (t C ns ρ h) fun b h=>match b with
  |true=>Yk ts C ns ρ h
  |false=>some (false,h)
def tOr:List TX→TX
 |[],_,_,_,h=>some (false,h)
 |t::ts,C,ns,ρ,h=>Qp (t C ns ρ h) fun b h=>match b with
  |false=>tOr ts C ns ρ h
  |true=>some (true,h)
def WQ:List EX→EX
 |[],_,_,_,_=>none
 |[e],C,ns,ρ,h=>e C ns ρ h
 |e::es,C,ns,ρ,h=>Qp (e C ns ρ h) fun p h=>ifB p fun b=>match b with
  |true=>WQ es C ns ρ h
  |false=>some (p,h)
def eOr:List EX→EX
 |[],_,_,_,_=>none
 |[e],C,ns,ρ,h=>e C ns ρ h
 |e::es,C,ns,ρ,h=>Qp (e C ns ρ h) fun p h=>ifB p fun b=>match b with
  |false=>eOr es C ns ρ h
  |true=>some (p,h)
def op1 (f:PV→H→R PV)(e:EX):EX:=fun C ns ρ h=>Qp (e C ns ρ h) f
def op2 (f:PV→PV→H→R PV)(a b:EX):EX:=fun C ns ρ h=>Qp (a C ns ρ h) fun p h=>Qp (b C ns ρ h) fun q h=>f p q h
def EV (p:PV)(h:H):R PV:=ifB p fun b=>some (.bool (!b),h)
def T8:=op1 EV
def VU (p:PV)(h:H):R PV:=ifI p fun i=>some (.int (-i),h)
def Tc:=op1 VU
def eIf (t:TX)(a b:EX):EX:=fun C ns ρ h=>Qp (t C ns ρ h) fun c h=>match c with
 |true=>a C ns ρ h
 |false=>b C ns ρ h
def iiO (f:Int→Int→Option PV)(p q:PV)(h:H):R PV:=ifI p fun a=>ifI q fun b=>(f a b).map (·,h)
def Hp (p q:PV)(h:H):R PV:=alt (iiO (fun a b=>some (.int (a+b))) p q h) (alt (ifT p fun a=>ifT q fun b=>mkT (a++b) h) (JO h p fun Z a=>JO h q fun Z b=>newL (a++b) h))
def Jx:=op2 Hp
def Ei:=iiO fun a b=>some (.int (a - b))
def PH:=op2 Ei
def Yt (a:Int):Bool:=Int.natAbs a<4611686018427387904
def RS:=iiO fun a b=>gd (Yt a&&Yt b) (some (.int (a*b)))
def Rk:=op2 RS
def Zx (b:Int):Bool:=decide (0<b)&&decide (b<4611686018427387904)
def L4:=iiO fun a b=>gd (Zx b) (some (.int (Int.fdiv a b)))
def Px:=op2 L4
def E7:=iiO fun a b=>gd (Zx b) (some (.int (Int.fmod a b)))
def PW:=op2 E7
def CJ:=iiO fun a b=>gd (a==10&&b==18) (some (.int 1000000000000000000))
def XU:=op2 CJ
def WN (b:Option Bool)(h:H):R PV:=match b with
 |some b=>some (.bool b,h)
 |none=>none
def eqO (p q:PV)(h:H):R PV:=WN (eqV h EQ p q) h
def neO (p q:PV)(h:H):R PV:=WN ((eqV h EQ p q).map not) h
def NN (f:Int→Int→Bool):=iiO fun a b=>some (.bool (f a b))
def eEq:=op2 eqO
def eNe:=op2 neO
def eLt:=op2 (NN fun a b=>decide (a<b))
def eLe:=op2 (NN fun a b=>decide (a≤b))
def eGt:=op2 (NN fun a b=>decide (b<a))
def eGe:=op2 (NN fun a b=>decide (b≤a))
def anyV (h:H)(x:PV):List PV→Option Bool
 |[]=>some false
 |y::ys=>match eqV h EQ y x with
  |some true=>(match anyV h x ys with|some _=>some true|none=>none)
  |some false=>anyV h x ys
  |none=>none
def keyEq (x y:PV):Option Bool:=alt (ifS x fun a=>ifS y fun b=>some (Nat.beq a b)) (ifI x fun a=>ifI y fun b=>some (a==b))
def QP (k:PV):List (PV×PV)→Option (Option PV)
 |[]=>some none
 |(x,v)::r=>match keyEq x k with
  |some true=>some (some v)
  |some false=>QP k r
  |none=>none
def ZT:PV→Bool
 |.sym _=>true
 |.int _=>true
 |_=>false
def inV (x c:PV)(h:H):Option Bool:=alt (ifT c (anyV h x)) (alt (JO h c fun Z=>anyV h x) (UY h c fun Z es=>gd (ZT x) ((QP x es).map Option.isSome)))
def inO (p q:PV)(h:H):R PV:=WN (inV p q h) h
def I6 (p q:PV)(h:H):R PV:=WN ((inV p q h).map not) h
def eIn:=op2 inO
def Zz:=op2 I6
def isN (f:Bool→Bool)(p q:PV)(h:H):R PV:=match q with
 |.none=>(nn p).map fun b=>(.bool (f b),h)
 |_=>none
def isO:=isN id
def G8:=isN not
def eIs:=op2 isO
def ZC:=op2 G8
def Z9 (k:Nat):List (Nat×PV)→Option PV
 |[]=>none
 |(x,v)::r=>match Nat.beq x k with
  |true=>some v
  |false=>Z9 k r
theorem Rl {k x:Nat}{v:PV}{r:List (Nat×PV)}:Z9 k ((x,v)::r)=(match Nat.beq x k with|true=>some v|false=>Z9 k r):=rfl
def IZ (c:Nat):List Nat:=[[0,1],[4,5],[4,14,15],[21,0],[27,0],[30,31,32,33,34,35],[36],[41,22,23,42,43,44,45,24,46],[30,47],[4,21,50,51]].getD c []
def ZV (c k:Nat):Bool:=(IZ c).any (Nat.beq k)
def Kc (k:Nat)(p:PV)(h:H):R PV:=ifP p fun l=>ifN h[l]? fun c fs=>gd (ZV c k) ((Z9 k fs).map (·,h))
def Qk (e:EX)(k:Nat):EX:=op1 (Kc k) e
def Yw (l:List PV)(i:Int):Option PV:=if Yt i then(if 0≤i then l[i.toNat]? else if i=-1 then l.getLast? else none)else none
def Dp (p q:PV)(h:H):R PV:=alt (ifT p fun l=>ifI q fun i=>(Yw l i).map (·,h)) (alt (JO h p fun Z l=>ifI q fun i=>(Yw l i).map (·,h)) (UY h p fun Z es=>gd (ZT q) ((QP q es).bind (Option.map (·,h)))))
def Qi:=op2 Dp
def Xz (p:PV)(h:H):Option (List PV):=JO h p fun Z=>some
def Qa3 (p:PV)(h:H):R PV:=JO h p fun Z l=>newL l.reverse h
def Co:=op1 Qa3
def Dy (p:PV)(h:H):R PV:=JO h p fun Z l=>gd (l.length==1) (newL [] h)
def Bc:=op1 Dy
def PX (ns:List Int)(p:PV)(h:H):R PV:=(alt (α:=Nat) (ifT p fun l=>gd (QG l) (some l.length)) (alt (JO h p fun Z l=>gd (QG l) (some l.length)) (alt (UY h p fun Z l=>gd (QG l) (some l.length)) (match p with
 |.scr=>some ns.length
 |_=>none)))).map fun(n:Nat)=>(.int n,h)
def Yl (e:EX):EX:=fun C ns ρ h=>Qp (e C ns ρ h) (PX ns)
def Db (p:PV)(h:H):R PV:=alt (ifT p fun l=>some (.tup l,h)) (JO h p fun Z l=>mkT l h)
def Mg:=op1 Db
def UL (p:PV)(h:H):R PV:=alt (ifT p fun l=>newL l h) (JO h p fun Z l=>newL l h)
def W5:=op1 UL
def OY (p:PV)(h:H):R PV:=JO h p fun Z l=>gd l.isEmpty (RQ (.dct []) h)
def Uc:=op1 OY
def IB (p:PV)(h:H):R PV:=alt (ifI p fun i=>some (.int i,h)) (ifB p fun b=>some (.int (if b then 1 else 0),h))
def W2:=op1 IB
def Kl (e:EX):EX:=fun C ns ρ h=>Qp (e C ns ρ h) fun p h=>match p with
 |.scr=>(match ns with
  |n::_=>some (.int n,h)
  |[]=>none)
 |_=>none
def ED:=iiO fun a b=>some (.int (if a<b then b else a))
def T0:=op2 ED
def Wm:List (PV×PV)→Option (List Int)
 |[]=>some []
 |x::r=>ifI x.1 fun i=>(Wm r).map (i::·)
def ris:Int→List Int→Bool
 |_,[]=>true
 |a,b::r=>decide (a<b)&&ris b r
def Mr:List Int→Bool
 |[]=>true
 |a::r=>ris a r
def Im (p:PV)(h:H):R PV:=UY h p fun Z es=>(Wm es).bind fun is=>gd (Mr is&&Nat.blt is.length 64) (newL (is.map .int) h)
def Wx:=op1 Im
def Gg (h:H)(m:Nat)(o:AO):H:=h.set m o
def J8 (p x:PV)(h:H):R PV:=JO h p fun m l=>gd (QG l) (some (.none,Gg h m (.lst (l++[x]))))
def RH (p:PV)(h:H):R PV:=JO h p fun m l=>gd (QG l) (l.getLast?.map (·,Gg h m (.lst l.dropLast)))
def IW:=op1 RH
def Iw (p x:PV)(h:H):R PV:=JO h p fun m l=>JO h x fun k r=>gd (!Nat.beq m k&&(QG l&&QG r)) (some (.none,Gg h m (.lst (l++r))))
def Av (p k d:PV)(h:H):R PV:=UY h p fun Z es=>gd (ZT k) ((QP k es).map fun r=>(r.getD d,h))
def JG (k v:PV):List (PV×PV)→List (PV×PV)
 |[]=>[(k,v)]
 |(x,w)::r=>match keyEq x k with
  |some true=>(x,v)::r
  |_=>(x,w)::JG k v r
def HL (p k d:PV)(h:H):R PV:=UY h p fun m es=>gd (ZT k&&QG es) ((QP k es).map fun r=>(r.getD d,match r with
 |some _=>h
 |none=>Gg h m (.dct (JG k d es))))
def Qn (f:Nat)(es:List EX):EX:=fun C ns ρ h=>Qp (Jg es C ns ρ h) fun ps h=>C f ps h
inductive Src where
 |lst (m:Nat)|tup (l:List PV)|rng (a:Int) (n:Nat)
noncomputable abbrev IX:=CT→List Int→Lc→H→R Src
def Rr (p:PV)(h:H):R Src:=alt (ifT p fun l=>some (.tup l,h)) (JO h p fun m Z=>some (.lst m,h))
def QO (e:EX):IX:=fun C ns ρ h=>Qp (e C ns ρ h) Rr
def ZH (a b:Int)(h:H):R Src:=if Yt a&&Yt b then some (.rng a (b - a).toNat,h)else none
def QM (e:EX):IX:=fun C ns ρ h=>Qp (e C ns ρ h) fun p h=>ifI p fun n=>ZH 0 n h
def N7 (a b:EX):IX:=fun C ns ρ h=>Qp (a C ns ρ h) fun p h=>Qp (b C ns ρ h) fun q h=>ifI p fun n=>ifI q fun m=>ZH n m h
def Nk (p:PV)(h:H):Bool:=(alt (ifT p fun l=>gd l.isEmpty (some ())) (JO h p fun Z l=>gd l.isEmpty (some ()))).isSome
def OK (a b:EX):IX:=fun C ns ρ h=>Qp (a C ns ρ h) fun p h=>Qp (b C ns ρ h) fun q h=>if Nk p h&&Nk q h then some (.tup [],h)else none
def YQ (h:H)(i:Nat):Src→Option (Option PV)
 |.lst m=>ifL h[m]? fun l=>some l[i]?
 |.tup l=>some l[i]?
 |.rng a n=>some (if i<n then some (.int (a+i))else none)
inductive Tg where
 |one (i:Nat)|many (is:List Nat)
def QW (ρ:Lc)(i:Nat)(p:PV):Lc:=ρ.set i p
def Yx:List Nat→List PV→Lc→Option Lc
 |[],[],ρ=>some ρ
 |i::is,p::ps,ρ=>Yx is ps (QW ρ i p)
 |_,_,_=>none
def ZY (t:Tg)(p:PV)(ρ:Lc):Option Lc:=match t with
 |.one i=>some (QW ρ i p)
 |.many is=>ifT p fun ps=>Yx is ps ρ
def BG:Nat:=64
def QZ (t:Tg)(ifs:TX)(body:CT→List Int→Lc→H→R Unit):Nat→Src→Nat→CT→List Int→Lc→H→R Unit
 |0,_,_,_,_,_,_=>none
 |n+1,src,i,C,ns,ρ,h=>match YQ h i src with
  |some (some p)=>(match ZY t p ρ with
   |some ρ'=>Qp (ifs C ns ρ' h) fun b h=>match b with
    |true=>Qp (body C ns ρ' h) fun Z h=>QZ t ifs body n src (i+1) C ns ρ h
    |false=>QZ t ifs body n src (i+1) C ns ρ h
   |none=>none)
  |some none=>some ((),h)
  |none=>none
theorem JS {t:Tg}{n i:Nat}{src:Src}{C:CT}{ns:List Int}{ρ:Lc}{h:H}{ifs:TX}{body:CT→List Int→Lc→H→R Unit}:QZ t ifs body (n+1) src i C ns ρ h=(match YQ h i src with
 |some (some p)=>(match ZY t p ρ with
  |some ρ'=>Qp (ifs C ns ρ' h) fun b h=>match b with
   |true=>Qp (body C ns ρ' h) fun Z h=>QZ t ifs body n src (i+1) C ns ρ h
   |false=>QZ t ifs body n src (i+1) C ns ρ h
  |none=>none)
 |some none=>some ((),h)
 |none=>none):=rfl
def MA (acc:Nat)(elt:EX):CT→List Int→Lc→H→R Unit:=fun C ns ρ h=>Qp (elt C ns ρ h) fun p h=>Qp (J8 (.loc acc) p h) fun Z h=>some ((),h)
def QX:Tg→List Nat
 |.one i=>[i]
 |.many is=>is
def YN:List Nat→Lc→Lc
 |[],ρ=>ρ
 |i::is,ρ=>YN is (QW ρ i .unb)
def QJ (it:IX)(t:Tg)(ifs:List TX)(elt:EX):EX:=fun C ns ρ h=>Qp (it C ns ρ h) fun src h=>
 Qp (QZ t (Yk ifs) (MA h.length elt) BG src 0 C ns (YN (QX t) ρ) (h++[.lst []])) fun Z h'=>some (.loc h.length,h')
def He (it:IX)(t:Tg)(it2:IX)(t2:Tg)(elt:EX):EX:=fun C ns ρ h=>Qp (it C ns ρ h) fun src h=>
 Qp (QZ t (Yk []) (fun C ns ρ h'=>Qp (it2 C ns ρ h') fun src2 h'=>QZ t2 (Yk []) (MA h.length elt) BG src2 0 C ns ρ h') BG src 0 C ns (YN (QX t++QX t2) ρ) (h++[.lst []])) fun Z h'=>some (.loc h.length,h')
def QN:List SX→SX
 |[],_,_,ρ,h=>some ((.nxt,ρ),h)
 |s::ss,C,ns,ρ,h=>Qp (s C ns ρ h) fun f h=>match f.1 with
  |.nxt=>QN ss C ns f.2 h
  |_=>some (f,h)
def sExp (e:EX):SX:=fun C ns ρ h=>Qp (e C ns ρ h) fun Z h=>some ((.nxt,ρ),h)
def QA (e:EX):SX:=fun C ns ρ h=>Qp (e C ns ρ h) fun p h=>some ((.ret p,ρ),h)
def DF:SX:=fun Z Z ρ h=>some ((.cnt,ρ),h)
def sSet (i:Nat)(e:EX):SX:=fun C ns ρ h=>Qp (e C ns ρ h) fun p h=>some ((.nxt,QW ρ i p),h)
def sSetT (is:List Nat)(e:EX):SX:=fun C ns ρ h=>Qp (e C ns ρ h) fun p h=>match ZY (.many is) p ρ with
 |some ρ=>some ((.nxt,ρ),h)
 |none=>none
def Ba (k:Nat)(v:PV):List (Nat×PV)→List (Nat×PV)
 |[]=>[(k,v)]
 |(x,w)::r=>match Nat.beq x k with
  |true=>(x,v)::r
  |false=>(x,w)::Ba k v r
theorem GK {k x:Nat}{v w:PV}{r:List (Nat×PV)}:Ba k v ((x,w)::r)=(match Nat.beq x k with|true=>(x,v)::r|false=>(x,w)::Ba k v r):=rfl
def Ji (o:PV)(k:Nat)(v:PV)(h:H):Option H:=ifP o fun l=>ifN h[l]? fun c fs=>gd (Nat.ble fs.length 30&&ZV c k) (some (Gg h l (.ins c (Ba k v fs))))
def sAttr (o:EX)(k:Nat)(e:EX):SX:=fun C ns ρ h=>Qp (e C ns ρ h) fun v h=>Qp (o C ns ρ h) fun o h=>match Ji o k v h with
 |some h=>some ((.nxt,ρ),h)
 |none=>none
def prK {α:Type}:List PV→(PV→PV→Option α)→Option α
 |[],_=>none
 |a::l,k=>match l with
  |[]=>none
  |b::l=>gd l.isEmpty (k a b)
def Hr (a:Nat)(k:Nat)(b:Nat)(k2:Nat)(e:EX):SX:=fun C ns ρ h=>Qp (e C ns ρ h) fun v h=>ifT v fun l=>prK l fun v w=>(Ji (Ya ρ a) k v h).bind fun h=>(Ji (Ya ρ b) k2 w h).map fun h=>((.nxt,ρ),h)
def Be (o k v:PV)(h:H):Option H:=alt (JO h o fun m l=>ifI k fun i=>gd (Yt i&&decide (0≤i)&&Nat.blt i.toNat l.length) (some (Gg h m (.lst (l.set i.toNat v))))) (UY h o fun m es=>gd (ZT k&&QG es) ((QP k es).map fun Z=>Gg h m (.dct (JG k v es))))
def BE (o i:EX)(e:EX):SX:=fun C ns ρ h=>Qp (e C ns ρ h) fun v h=>Qp (o C ns ρ h) fun o h=>Qp (i C ns ρ h) fun i h=>match Be o i v h with
 |some h=>some ((.nxt,ρ),h)
 |none=>none
def sIf (t:TX)(a b:List SX):SX:=fun C ns ρ h=>Qp (t C ns ρ h) fun c h=>match c with
 |true=>QN a C ns ρ h
 |false=>QN b C ns ρ h
def YX (t:TX)(body:SX):Nat→SX
 |0,_,_,_,_=>none
 |n+1,C,ns,ρ,h=>Qp (t C ns ρ h) fun c h=>match c with
  |true=>Qp (body C ns ρ h) fun f h=>match f.1 with
   |.ret p=>some ((.ret p,f.2),h)
   |_=>YX t body n C ns f.2 h
  |false=>some ((.nxt,ρ),h)
def ZA (t:TX)(body:List SX):SX:=YX t (QN body) BG
def YF (t:Tg)(body:SX):Nat→Src→Nat→SX
 |0,_,_,_,_,_,_=>none
 |n+1,src,i,C,ns,ρ,h=>match YQ h i src with
  |some (some p)=>(match ZY t p ρ with
   |some ρ=>Qp (body C ns ρ h) fun f h=>match f.1 with
    |.ret p=>some ((.ret p,f.2),h)
    |_=>YF t body n src (i+1) C ns f.2 h
   |none=>none)
  |some none=>some ((.nxt,ρ),h)
  |none=>none
theorem BM {t:Tg}{n i:Nat}{src:Src}{C:CT}{ns:List Int}{ρ:Lc}{h:H}{body:SX}:YF t body (n+1) src i C ns ρ h=(match YQ h i src with
 |some (some p)=>(match ZY t p ρ with
  |some ρ=>Qp (body C ns ρ h) fun f h=>match f.1 with
   |.ret p=>some ((.ret p,f.2),h)
   |_=>YF t body n src (i+1) C ns f.2 h
  |none=>none)
 |some none=>some ((.nxt,ρ),h)
 |none=>none):=rfl
def YK (t:Tg)(it:IX)(body:List SX):SX:=fun C ns ρ h=>Qp (it C ns ρ h) fun src h=>YF t (QN body) BG src 0 C ns ρ h
def Af (body:List SX)(C:CT)(ns:List Int)(ρ:Lc)(h:H):R PV:=Qp (QN body C ns ρ h) fun f h=>match f.1 with
 |.ret p=>some (p,h)
 |_=>some (.none,h)
def Zb:PV:=.tup [.sym 0,.sym 9,.tup []]
def QS:PV:=.tup [.sym 8]
def Ku:PV:=.tup [.sym 0,.sym 13,.tup []]
def LA:PV:=.tup [.sym 0,.sym 14,.tup []]
def WR (n:Nat):Option (List PV):=match Nat.blt 8 n with
 |true=>[[.sym 9],[.sym 10,.sym 12,.sym 9],[.sym 11,.sym 12,.sym 9],[.sym 12,.sym 9]][n - 9]?
 |false=>none
def ZF (p q:PV)(h:H):R PV:=ifS q fun n=>(WR n).bind fun l=>WN ((anyV h p l).map not) h
def Y5:=op2 ZF
def HV:List (Nat×Nat)→Nat→Option Nat
 |[],_=>none
 |p::l,c=>bif Nat.beq p.1 c then some p.2 else HV l c
def HN:List (Nat×Nat×Nat)→Nat→Nat→Option Nat
 |[],_,_=>none
 |p::l,c,k=>bif Nat.beq p.1 c&&Nat.beq p.2.1 k then some p.2.2 else HN l c k
def OF:List (Nat×Nat×Nat):=[(0,3,5),(1,13,11),(1,6,12),(1,7,13),(1,9,14),(1,10,15),(1,11,16),(1,8,17),(2,16,24),(2,6,25),(2,20,26),(2,17,27),(2,18,28),(2,19,29),(3,60,32),(3,26,33),(3,28,34),(4,61,36),(4,15,37),(4,63,38),(4,29,39),(4,62,40),(5,38,42),(6,59,44),(6,37,45),(6,39,46),(6,12,47),(6,40,48),(7,49,50),(7,48,51),(8,52,56),(8,53,57),(9,22,59),(9,52,60),(9,53,61),(9,54,62),(9,58,63),(9,55,64),(9,56,65),(9,57,66),(9,25,67)]
def DG:List (Nat×Nat):=[(0,4),(1,10),(2,23),(3,31),(4,35),(5,41),(6,43),(7,49),(8,55),(9,58)]
def GB (c k:Nat):Option Nat:=HN OF c k
def GR (c:Nat):Option Nat:=HV DG c
def Jl (c:Nat)(es:List EX):EX:=fun C ns ρ h=>Qp (Jg es C ns ρ h) fun ps h=>match GR c with
 |some mi=>Qp (C mi (.loc h.length::ps) (h++[.ins c []])) fun r h'=>(match r with
  |.none=>some (.loc h.length,h')
  |_=>none)
 |none=>none
def M5 (k:Nat)(p:PV)(h:H):Option Nat:=ifP p fun l=>ifN h[l]? fun c fs=>gd (Z9 k fs).isNone (some c)
def Qx (o:EX)(k:Nat)(es:List EX):EX:=fun C ns ρ h=>Qp (o C ns ρ h) fun o h=>match M5 k o h with
 |some c=>(match GB c k with
  |some f=>Qp (Jg es C ns ρ h) fun ps h=>C f (o::ps) h
  |none=>none)
 |none=>none
def Jo (p:PV)(h:H):Bool:=(Xz p h).isSome
def JU (p:PV)(h:H):Bool:=(UY h p fun Z=>some).isSome
def TU (k:PV→H→Bool)(f:PV→PV→H→R PV)(a b:EX):EX:=fun C ns ρ h=>Qp (a C ns ρ h) fun p h=>match k p h with
 |true=>Qp (b C ns ρ h) fun q h=>f p q h
 |false=>none
def Tr (k:PV→H→Bool)(f:PV→PV→PV→H→R PV)(a b c:EX):EX:=fun C ns ρ h=>Qp (a C ns ρ h) fun p h=>match k p h with
 |true=>Qp (b C ns ρ h) fun q h=>Qp (c C ns ρ h) fun r h=>f p q r h
 |false=>none
def Q8:=TU Jo J8
def J3:=TU Jo Iw
def P9:=Tr JU Av
def WD:=Tr JU HL
section
variable {α:Type} {r:α}
theorem Q1 {b:Bool}{x:Option α}(e:gd b x=some r):b=true∧x=some r:=by
 cases b with
 |false=>exact fo e
 |true=>exact⟨rfl,e⟩
theorem Yf {x y:Option α}(e:alt x y=some r){G:Prop}(a:x=some r→G)(b:y=some r→G):G:=by
 cases x with
 |none=>exact b e
 |some z=>exact a e
@[elab_as_elim] theorem pS {β:Type} {a c:α} {b d:β} {G:α→β→Prop} (e:some (a,b)=some (c,d)) (g:G a b):G c d:=by cases e;exact g
@[elab_as_elim] theorem mS {β:Type} {x:Option α} {c:α} {b d:β} {G:α→β→Prop} (e:x.map (·,b)=some (c,d)) (g:∀a,x=some a→G a b):G c d:=by
 cases x with
 |none=>exact fo e
 |some a=>cases e;exact g _ rfl
@[elab_as_elim] theorem ifI_some {p:PV} {k:Int→Option α} {G:PV→Prop} (e:ifI p k=some r) (g:∀i,k i=some r→G (.int i)):G p:=by
 cases p<;>first|exact g _ e|exact fo e
@[elab_as_elim] theorem ifB_some {p:PV} {k:Bool→Option α} {G:PV→Prop} (e:ifB p k=some r) (g:∀i,k i=some r→G (.bool i)):G p:=by
 cases p<;>first|exact g _ e|exact fo e
@[elab_as_elim] theorem ifS_some {p:PV} {k:Nat→Option α} {G:PV→Prop} (e:ifS p k=some r) (g:∀i,k i=some r→G (.sym i)):G p:=by
 cases p<;>first|exact g _ e|exact fo e
@[elab_as_elim] theorem ifT_some {p:PV} {k:List PV→Option α} {G:PV→Prop} (e:ifT p k=some r) (g:∀i,k i=some r→G (.tup i)):G p:=by
 cases p<;>first|exact g _ e|exact fo e
@[elab_as_elim] theorem ifP_some {p:PV} {k:Nat→Option α} {G:PV→Prop} (e:ifP p k=some r) (g:∀i,k i=some r→G (.loc i)):G p:=by
 cases p<;>first|exact g _ e|exact fo e
theorem Cb {l:List PV}{k:PV→PV→Option α}(e:prK l k=some r):∃a b,l=[a,b]∧k a b=some r:=by
 refine q1 l ?_;intro Q;cases l with
 |nil=>exact fo e
 |cons a l=>refine q1 l ?_;intro Q;cases l with
  |nil=>exact fo e
  |cons b l=>cases l with
   |nil=>exact⟨a,b,rfl,e⟩
   |cons _ _=>exact fo e
theorem G1 {p:PV}{k:Int→Option α}(e:ifI p k=some r):∃b,p=.int b∧k b=some r:=ifI_some (G:=fun p=>∃b,p=.int b∧k b=some r) e fun b e=>⟨b,rfl,e⟩
theorem GY {p:PV}{k:Bool→Option α}(e:ifB p k=some r):∃b,p=.bool b∧k b=some r:=ifB_some (G:=fun p=>∃b,p=.bool b∧k b=some r) e fun b e=>⟨b,rfl,e⟩
theorem Tl {p:PV}{k:Nat→Option α}(e:ifS p k=some r):∃b,p=.sym b∧k b=some r:=ifS_some (G:=fun p=>∃b,p=.sym b∧k b=some r) e fun b e=>⟨b,rfl,e⟩
theorem OZ {p:PV}{k:List PV→Option α}(e:ifT p k=some r):∃b,p=.tup b∧k b=some r:=ifT_some (G:=fun p=>∃b,p=.tup b∧k b=some r) e fun b e=>⟨b,rfl,e⟩
theorem Zr {o:Option AO}{k:List PV→Option α}(e:ifL o k=some r):∃l,o=some (.lst l)∧k l=some r:=by
 cases o with
 |none=>exact fo e
 |some o=>refine q1 o ?_;intro Q;cases o<;>first|exact⟨_,rfl,e⟩|exact fo e
theorem Gw {o:Option AO}{k:List (PV×PV)→Option α}(e:ifD o k=some r):∃l,o=some (.dct l)∧k l=some r:=by
 cases o with
 |none=>exact fo e
 |some o=>refine q1 o ?_;intro Q;cases o<;>first|exact⟨_,rfl,e⟩|exact fo e
theorem Mc {o:Option AO}{k:Nat→List (Nat×PV)→Option α}(e:ifN o k=some r):∃c fs,o=some (.ins c fs)∧k c fs=some r:=by
 refine q1 o ?_;intro Q;cases o with
 |none=>exact fo e
 |some o=>refine q1 o ?_;intro Q;cases o<;>first|exact⟨_,_,rfl,e⟩|exact fo e
@[elab_as_elim] theorem lstK_some {h:H} {p:PV} {k:Nat→List PV→Option α} {G:PV→Prop} (e:JO h p k=some r) (g:∀m l,h[m]?=some (.lst l)→k m l=some r→G (.loc m)):G p:=by
 refine ifP_some e fun m e=>?_
 obtain⟨l,e1,e2⟩:=Zr e
 exact g m l e1 e2
@[elab_as_elim] theorem dctK_some {h:H} {p:PV} {k:Nat→List (PV×PV)→Option α} {G:PV→Prop} (e:UY h p k=some r) (g:∀m l,h[m]?=some (.dct l)→k m l=some r→G (.loc m)):G p:=by
 refine ifP_some e fun m e=>?_
 obtain⟨l,e1,e2⟩:=Gw e
 exact g m l e1 e2
theorem Yj {h:H}{m:Nat}{l:List PV}{k:Nat→List PV→Option α}(e:h[m]?=some (.lst l)):JO h (.loc m) k=k m l:=by show ifL h[m]? _=_;rw[e];rfl
theorem N4 {h:H}{m:Nat}{l:List (PV×PV)}{k:Nat→List PV→Option α}(e:h[m]?=some (.dct l)):JO h (.loc m) k=none:=by show ifL h[m]? _=_;rw[e];rfl
theorem Jj {h:H}{m:Nat}{l:List (PV×PV)}{k:Nat→List (PV×PV)→Option α}(e:h[m]?=some (.dct l)):UY h (.loc m) k=k m l:=by show ifD h[m]? _=_;rw[e];rfl
theorem By {h:H}{m c:Nat}{fs:List (Nat×PV)}{k:Nat→List (Nat×PV)→Option α}(e:h[m]?=some (.ins c fs)):ifN h[m]? k=k c fs:=by rw[e];rfl
end
end Mine.Tactic
namespace Mine.Tactic
def Hk:List SX:=[(QA (QK [(Qs 1),(Mg (Qa 0)),(Qa 1)]))]
def N2:List SX:=[(sSet 1 (Qi (Qa 0) (Qj 0))),(sIf (tE (eEq (Qa 1) (Qs 0))) [(QA (W5 (Qi (Qa 0) (Qj 2))))] []),(sIf (tE (eEq (Qa 1) (Qs 1))) [(QA (Jx (W5 (Qi (Qa 0) (Qj 1))) (eIf (tE (eIs (Qi (Qa 0) (Qj 2)) QT)) (QE []) (QE [(Qi (Qa 0) (Qj 2))]))))] []),(sIf (tE (eEq (Qa 1) (Qs 3))) [Qq] []),(sIf (tE (eEq (Qa 1) (Qs 4))) [Qq] []),(QA (eIf (tE (eEq (Qa 1) (Qs 6))) (QE [(Qi (Qa 0) (Qj 1))]) (QE [])))]
def MU:List SX:=[(sIf (tE (eEq (Qi (Qa 0) (Qj 0)) (Qs 5))) [Qq] []),(sIf (tE (eEq (Qi (Qa 0) (Qj 0)) (Qs 4))) [Qq,Qq,Qq,Qq] []),(sSet 4 (Qn 1 [(Qa 0)])),(QA (eIf (tE (eEq (Qa 4) (QE []))) (Qa 0) QR))]
def ND:List SX:=[(sSetT [1,2] (QK [(QE []),(QE [(QK [(Qa 0),(QK [])])])])),(ZA (tE (eNe (Qa 2) (QE []))) [(sSetT [3,4] (IW (Qa 2))),(sIf (tE (eEq (Qi (Qa 3) (Qj 0)) (Qs 5))) [Qq] [(sIf (tE (eEq (Qi (Qa 3) (Qj 0)) (Qs 4))) [Qq,Qq] [(sExp (J3 (Qa 2) (QJ (QO (Co (Qn 1 [(Qa 3)]))) (.one 5) [] (QK [(Qa 5),(Qa 4)]))))])])]),(QA (Qa 1))]
def I7:List SX:=[(sAttr (Qa 0) 0 (eIf (tE (eIs (Qa 1) QT)) Zc (Qa 1))),(sAttr (Qa 0) 1 (Qa 2))]
def Nb:List SX:=[(QA (WQ [(eEq (Qi (Qa 1) (Qj 0)) (Qs 5)),(Qk (Qx (Qa 0) 2 [(Qi (Qa 1) (Qj 1))]) 3)]))]
def OX:List SX:=[(sSet 1 (Qi (Qa 0) (Qj 0))),(sIf (tE (eEq (Qa 1) (Qs 3))) [Qq] [(sIf (Yk [(tE (eEq (Qa 1) (Qs 4))),(ZO (tE QR))]) [Qq] [(sIf (tE (eEq (Qa 1) (Qs 1))) [(sSet 2 (Qn 7 [(Qa 0)]))] [(sSet 2 (QE [(Qa 0)]))])])]),(QA (eIf (tE (eLe (Yl (Qa 2)) (JF (.int 64)))) (Qa 2) (QE [(Qa 0)])))]
def MZ:List SX:=[(sSet 1 (QE [(QK [])])),(YK (.one 2) (QO (Qi (Qa 0) (Qj 1))) [(sSet 3 (Qn 6 [(Qa 2)])),(sIf (tE (eGt (Rk (Yl (Qa 1)) (Yl (Qa 3))) (JF (.int 64)))) [Qq] []),(sSet 1 (He (QO (Qa 1)) (.one 4) (QO (Qa 3)) (.one 5) (Jx (Qa 4) (QK [(Qa 5)]))))]),(QA (QJ (QO (Qa 1)) (.one 6) [] (Qn 0 [(Qa 6),(Qi (Qa 0) (Qj 2))])))]
def GQ:List SX:=[(sIf (tE (eEq (Qi (Qa 0) (Qj 0)) (Qs 1))) [(QA (eIn (YH true) (QJ (QO (Qi (Qa 0) (Qj 1))) (.one 1) [] (Qn 8 [(Qa 1)]))))] []),(sIf (tE (eEq (Qi (Qa 0) (Qj 0)) (Qs 4))) [Qq] []),(QA (eEq (Qa 0) (JF QS)))]
def La:List SX:=[(QA (eIf (Yk [(tE (ZC (Qi (Qa 0) (Qj 2)) QT)),(tE (Qn 8 [(Qi (Qa 0) (Qj 2))]))]) QT (Qi (Qa 0) (Qj 2))))]
def MN:List SX:=[(sAttr (Qa 0) 4 (Qa 1)),(sAttr (Qa 0) 5 (Qa 2))]
def Ia:List SX:=[(sSet 3 (QE [(QK [(W5 (Qa 1)),(Qa 2)])])),(ZA (Yk [(tE (eNe (Qa 3) (QE []))),(tE (eGt (Qk (Qa 0) 5) (Qj 0)))]) [(sSetT [4,5] (IW (Qa 3))),(sSet 6 (Qx (Qa 0) 6 [(Qa 4),(Qa 5),(Qa 3)])),(sIf (tE (ZC (Qa 6) QT)) [(QA (Qa 6))] [])]),(QA QT)]
def Zj:List SX:=[(ZA (tE (eNe (Qa 1) (QE []))) [(sAttr (Qa 0) 5 (PH (Qk (Qa 0) 5) (Qj 1))),(sSet 4 (eIf (tE (eGe (Qk (Qa 0) 5) (Qj 0))) (Qx (Qa 0) 7 [(IW (Qa 1)),(Qa 2)]) (QE []))),(sIf (tE (eEq (Qa 4) (QE []))) [(QA QT)] []),(YK (.one 5) (QO (Bc (Qa 4))) [Qq]),(sExp (J3 (Qa 1) (Qi (Qa 4) (Qj 0))))]),(QA (eIf (tE (Qx (Qa 0) 8 [(Qa 2)])) (Qa 2) QT))]
def MX:List SX:=[(sSetT [3,4,5] (Qa 1)),(sIf (tE (eEq (Qa 4) (Qa 5))) [(QA (QE [(QE [])]))] []),(sIf (tE (eIn (Qs 7) (QK [(Qi (Qa 4) (Qj 0)),(Qi (Qa 5) (Qj 0))]))) [Qq] []),(sIf (tE (eEq (Qa 3) (Qs 18))) [Qq] []),(sIf (tOr [(tE (Qn 8 [(Qa 4)])),(tE (eEq (Qa 5) (JF Zb)))]) [(QA (QE [(QE [])]))] []),(sIf (tE (Qx (Qa 2) 3 [(Qa 4)])) [Qq] []),(sIf (tE (Qx (Qa 2) 3 [(Qa 5)])) [Qq] []),(QA (Qx (Qa 0) 9 [(Qa 4),(Qa 5),(Qa 2)]))]
def BR:List SX:=[(sIf (tE (eEq (Qi (Qa 1) (Qj 0)) (Qs 3))) [Qq] []),(sIf (tE (eEq (Qi (Qa 1) (Qj 0)) (Qs 4))) [Qq] []),(sIf (tE (eEq (Qi (Qa 2) (Qj 0)) (Qs 3))) [Qq,Qq] []),(sIf (tE (eEq (Qi (Qa 2) (Qj 0)) (Qs 4))) [Qq] []),(sIf (tE (eEq (Qi (Qa 1) (Qj 0)) (Qs 5))) [Qq,Qq,Qq] []),(sIf (tE (eEq (Qi (Qa 2) (Qj 0)) (Qs 5))) [Qq,Qq] []),(QA (Qx (Qa 0) 10 [(Qa 1),(Qa 2)]))]
def UM:List SX:=[(sSet 3 (QK [(Qi (Qa 1) (Qj 0)),(Qi (Qa 2) (Qj 0))])),(sIf (tE (eEq (Qa 3) (QK [(Qs 0),(Qs 0)]))) [(QA (Qx (Qa 0) 11 [(Qa 1),(Qa 2)]))] []),(sIf (tE (eEq (Qa 3) (QK [(Qs 1),(Qs 1)]))) [(QA (Qn 18 [(Qa 1),(Qa 2)]))] []),Qq,Qq,Qq]
def Nn:List SX:=[(YK (.one 3) (QO (Qx (Qk (Qa 0) 4) 12 [(Qa 1)])) [(sIf (tE (eEq (Qi (Qa 3) (Qj 1)) (Qi (Qa 2) (Qj 1)))) [(QA (QE [(QJ (OK (Qi (Qa 3) (Qj 2)) (Qi (Qa 2) (Qj 2))) (.many [4,5]) [] (QK [(Qs 18),(Qa 4),(Qa 5)]))]))] [])]),(QA (QE []))]
def Z2:List SX:=[(YK (.one 2) (QO (Wx (Qk (Qa 1) 0))) [Qq,Qq]),(QA (YH true))]
def IG:List SX:=[(sSetT [2,3] (QK [(Qi (Qa 0) (Qj 1)),(Qn 9 [(Qa 0)])])),(sSetT [4,5] (QK [(Qi (Qa 1) (Qj 1)),(Qn 9 [(Qa 1)])])),(sIf (tOr [(tE (eLt (Yl (Qa 2)) (Yl (Qa 4)))),(Yk [(tE (eIs (Qa 5) QT)),(tOr [(tE (ZC (Qa 3) QT)),(tE (eGt (Yl (Qa 2)) (Yl (Qa 4))))])])]) [(QA (QE []))] []),(sSet 6 (QJ (QM (Yl (Qa 2))) (.one 7) [] (QK [(Qs 17),(Qi (Qa 2) (Qa 7)),(eIf (tE (eLt (Qa 7) (Yl (Qa 4)))) (Qi (Qa 4) (Qa 7)) (Qa 5))]))),(QA (QE [(Jx (Qa 6) (eIf (tE (eIs (Qa 3) QT)) (QE []) (QE [(QK [(Qs 17),(Qa 3),(Qa 5)])])))]))]
def Ij:List SX:=[(sIf (tE (eEq (Qa 1) (Qa 2))) [(QA (YH true))] []),(YK (.one 4) (QO (Qn 6 [(Qa 1)])) [(sSet 5 (Jl 1 [(Qa 0),(Qa 3)])),(sIf (tE (eIs (Qx (Qa 5) 13 [(QE [(QK [(Qs 17),(Qa 4),(Qa 2)])]),(Jl 0 [])]) QT)) [(QA (YH false))] [])]),(QA (YH true))]
def Dx:List SX:=[(QA (eOr [(eEq (Qa 1) (Qa 2)),(WQ [(Qn 19 [(Qa 0),(Qa 1),(Qa 2)]),(Qn 19 [(Qa 0),(Qa 2),(Qa 1)])])]))]
def PU:List SX:=[(sSetT [4,5,6] (QK [(Jl 0 []),(QE []),(Qa 2)])),(sSet 7 (QE [])),(ZA (tE (eEq (Qi (Qa 6) (Qj 0)) (Qs 4))) [Qq,Qq,Qq,Qq,Qq]),(sSet 11 (Qx (Jl 1 [(Qa 0),(Qa 3)]) 13 [(Jx (Qa 7) (QE [(QK [(Qs 17),(Qa 1),(Qa 6)])])),(Qa 4)])),(sIf (tE (eIs (Qa 11) QT)) [(QA QT)] []),(sSet 12 Zc),(YK (.many [8,9]) (QO (Qa 5)) [Qq,Qq]),(QA (Qa 12))]
def Uu:List SX:=[(sSetT [1,2] (QK [(QE []),(QE [(Qa 0)])])),(ZA (tE (eNe (Qa 2) (QE []))) [(sSet 3 (IW (Qa 2))),(sIf (tE (eIn (Qi (Qa 3) (Qj 0)) (QK [(Qs 5),(Qs 4)]))) [Qq] []),(sExp (J3 (Qa 2) (Qn 1 [(Qa 3)])))]),(QA (Qa 1))]
def Ur:List SX:=[(sAttr (Qa 0) 4 (Qa 1)),(sAttr (Qa 0) 14 (Qa 2)),(sAttr (Qa 0) 15 Zc)]
def Bi:List SX:=[(QA (eNe (Qn 3 [(Qa 1)]) (QE [])))]
def Bu:List SX:=[(YK (.one 3) (QM (Jx (Yl (Qa 2)) (Qj 1))) [(sIf (tE (eEq (QJ (QO (Qn 3 [(Qa 1)])) (.one 4) [(tE (eIn (Qa 4) (Qa 2)))] (Qa 4)) (QE []))) [(QA (Qa 1))] []),Qq]),Qq]
def Uo:List SX:=[(sIf (tOr [(tE (eEq (Qa 1) (Qa 2))),(tE (eEq (Qa 2) (JF Zb)))]) [(QA (QK [(Qa 1),(Qa 3)]))] []),(sIf (tE (eEq (Qa 1) (JF Zb))) [(QA (QK [(Qa 2),(Qa 3)]))] []),(sIf (Yk [(ZO (tE (Qx (Qa 0) 16 [(Qa 1)]))),(ZO (tE (Qx (Qa 0) 16 [(Qa 2)])))]) [(sIf (tE (Qn 19 [(Qk (Qa 0) 4),(Qa 1),(Qa 2)])) [(QA (QK [(Qa 1),(Qa 3)]))] []),(sIf (tE (Qn 19 [(Qk (Qa 0) 4),(Qa 2),(Qa 1)])) [(QA (QK [(Qa 2),(Qa 3)]))] [])] []),(YK (.one 4) (QO (QK [(Qs 3),(Qs 4),(Qs 5)])) [(sIf (tE (eEq (Qi (Qa 1) (Qj 0)) (Qa 4))) [Qq] []),(sIf (tE (eEq (Qi (Qa 2) (Qj 0)) (Qa 4))) [Qq] [])]),(QA (Qx (Qa 0) 17 [(Qa 1),(Qa 2),(Qa 3)]))]
def We:List SX:=[(sSet 4 (QK [(Qi (Qa 1) (Qj 0)),(Qi (Qa 2) (Qj 0))])),(sIf (tE (eEq (Qa 4) (QK [(Qs 1),(Qs 1)]))) [(QA (Qx (Qa 0) 18 [(Qa 1),(Qa 2),(Qa 3)]))] []),(sIf (tE (eEq (Qa 4) (QK [(Qs 0),(Qs 0)]))) [(QA (Qx (Qa 0) 19 [(Qa 1),(Qa 2),(Qa 3)]))] []),Qq,Qq,Qq]
def ZZ:List SX:=[(sSetT [4,5,6,7] (QK [(Qi (Qa 1) (Qj 1)),(Qi (Qa 2) (Qj 1)),(Qn 9 [(Qa 1)]),(Qn 9 [(Qa 2)])])),(sIf (tOr [(Yk [(tE (eIs (Qa 6) QT)),(tE (eLt (Yl (Qa 4)) (Yl (Qa 5))))]),(Yk [(tE (eIs (Qa 7) QT)),(tE (eLt (Yl (Qa 5)) (Yl (Qa 4))))])]) [(QA (QK [(JF QS),(Qa 3)]))] []),(sSetT [8,9] (QK [(QE []),(Qa 3)])),(YK (.one 10) (QM (T0 (Yl (Qa 4)) (Yl (Qa 5)))) [(sSet 11 (eIf (tE (eLt (Qa 10) (Yl (Qa 4)))) (Qi (Qa 4) (Qa 10)) (Qa 6))),(sSet 12 (eIf (tE (eLt (Qa 10) (Yl (Qa 5)))) (Qi (Qa 5) (Qa 10)) (Qa 7))),(sSetT [13,9] (Qx (Qa 0) 20 [(Qa 11),(Qa 12),(Qa 9)])),(sIf (tE (Qn 8 [(Qa 13)])) [(QA (QK [(JF QS),(Qa 3)]))] []),(sExp (Q8 (Qa 8) (Qa 13)))]),(sIf (tOr [(tE (eIs (Qa 6) QT)),(tE (eIs (Qa 7) QT))]) [(QA (QK [(Qn 0 [(Qa 8)]),(Qa 9)]))] []),Qq,Qq]
def Wg:List SX:=[(YK (.many [4,5]) (QO (QK [(QK [(Qa 1),(Qa 2)]),(QK [(Qa 2),(Qa 1)])])) [(YK (.one 6) (QO (Qx (Qk (Qa 0) 4) 12 [(Qa 4)])) [(sIf (tE (eEq (Qi (Qa 6) (Qj 1)) (Qi (Qa 5) (Qj 1)))) [Qq] [])])]),(QA (QK [(JF QS),(Qa 3)]))]
def UX:List SX:=[(sSet 3 (Jl 2 [(Qa 0),(Jx (Qn 22 [(Qa 1)]) (Qn 22 [(Qa 2)]))])),(sSetT [4,5] (Qx (Qa 3) 20 [(Qa 1),(Qa 2),Zc])),(sSet 4 (Qx (Qa 3) 6 [(Qa 4),(Qa 5)])),(QA (eIf (tE (Qn 8 [(Qa 4)])) (JF QS) (Qa 4)))]
def Ic:List SX:=[(sAttr (Qa 0) 21 (Qa 1)),(sAttr (Qa 0) 0 Zc)]
def IE:List SX:=[(sSet 4 (WD (Qk (Qa 0) 0) (Qa 1) (QE []))),(sIf (tE (Zz (QK [(Qa 2),(Qa 3)]) (Qa 4))) [(sExp (Q8 (Qa 4) (QK [(Qa 2),(Qa 3)])))] [])]
def UP:List SX:=[(YK (.many [3,4]) (QO (P9 (Qk (Qa 0) 0) (Qa 1) (QE []))) [(sIf (tOr [(tE (eNe (Qa 3) (Qk (Qa 2) 22))),(tE (eEq (Qn 30 [(Qk (Qk (Qa 0) 21) 4),(Qa 4),(Qk (Qa 2) 23)]) (JF QS)))]) [DF] []),(sSet 5 (Qk (Qa 2) 24)),(sIf (tE (eNe (Qx (Qk (Qa 0) 21) 25 [(Qa 3),(Qa 4),(PH (Qa 5) (Qj 1))]) (Qx (Qk (Qa 0) 21) 25 [(Qa 3),(Qa 4),(Qa 5)]))) [(QA (YH true))] [])]),(QA (YH false))]
def Bx:List SX:=[(QA (QJ (QO (Wx (Qk (Qa 0) 0))) (.one 2) [(tE (Qx (Qa 0) 26 [(Qa 2),(Qa 1)]))] (Qa 2)))]
def MW:List SX:=[(sAttr (Qa 0) 27 (Qa 1)),(sAttr (Qa 0) 0 Zc)]
def NL:List SX:=[(BE (Qk (Qa 0) 0) (Qa 1) (QK [(Qa 2),QT]))]
def NQ:List SX:=[(QA (Qi (Qk (Qa 0) 0) (Qa 1)))]
def Md:List SX:=[(sIf (tE (Zz (Qa 1) (Qk (Qa 0) 0))) [(QA (YH false))] []),(sSetT [3,4] (Qi (Qk (Qa 0) 0) (Qa 1))),(QA (WQ [(eLe (Qa 3) (Qa 2)),(eOr [(eIs (Qa 4) QT),(eLt (Qa 2) (Qa 4))])]))]
def MV:List SX:=[(sSetT [3,4] (Qi (Qk (Qa 0) 0) (Qa 1))),(sIf (tE (eIs (Qa 4) QT)) [(BE (Qk (Qa 0) 0) (Qa 1) (QK [(Qa 3),(Qa 2)]))] [])]
def Mn:List SX:=[(sSet 2 (QJ (QO (Qx (Qk (Qa 0) 27) 28 [(Qa 1)])) (.one 4) [(Yk [(tE (eIn (Qa 4) (Qk (Qa 0) 0))),(tE (eIs (Qi (Qi (Qk (Qa 0) 0) (Qa 4)) (Qj 1)) QT))])] (Qa 4))),(YK (.one 3) (QO (Qa 2)) [(sExp (Qx (Qa 0) 29 [(Qa 3),(Qk (Qa 1) 24)]))]),(QA (Qa 2))]
def Df:List SX:=[(sAttr (Qa 0) 30 (Qa 1)),(sAttr (Qa 0) 31 (W5 (Qa 2))),(sAttr (Qa 0) 32 (Qa 3)),(sAttr (Qa 0) 33 (Qa 4)),(sAttr (Qa 0) 34 (Qa 5)),(sAttr (Qa 0) 35 (W5 (Qa 6)))]
def BT:List SX:=[(QA (Uc (QJ (OK (Qk (Qa 0) 31) (Qa 1)) (.many [2,3]) [] (QK [(Qi (Qa 2) (Qj 0)),(Qa 3)]))))]
def IA:List SX:=[(sAttr (Qa 0) 36 (I5 (Qs 9) (Jl 5 [(Qs 9),(QE []),QT,(YH true)])))]
def NV:List SX:=[(sIf (tE (eIn (Qk (Qa 1) 30) (Qk (Qa 0) 36))) [Qq] []),(sSet 2 (Qk (Qa 1) 32)),(sIf (tOr [(tE (eNe (Qi (Qa 2) (Qj 0)) (Qs 0))),(tE (Zz (Qi (Qa 2) (Qj 1)) (Qk (Qa 0) 36))),(ZO (tE (Qk (Qi (Qk (Qa 0) 36) (Qi (Qa 2) (Qj 1))) 33)))]) [Qq] []),(sIf (tOr [(tE (eEq (Qa 2) (JF Ku))),(tE (eNe (Yl (Qi (Qa 2) (Qj 2))) (Yl (Qk (Qi (Qk (Qa 0) 36) (Qi (Qa 2) (Qj 1))) 31))))]) [Qq] []),(sSet 3 (QJ (QO (Qk (Qa 1) 31)) (.one 7) [] (Qi (Qa 7) (Qj 0)))),(sSet 4 (QJ (QO (Qn 3 [(Qa 2)])) (.one 8) [(tE (Zz (Qa 8) (Qa 3)))] (Qa 8))),(YK (.many [5,6]) (QO (Qk (Qa 1) 35)) [Qq]),(sIf (tOr [(tE (eNe (Qa 4) (QE []))),(tE (eNe (Yl (Uc (Qk (Qa 1) 35))) (Yl (Qk (Qa 1) 35))))]) [Qq] []),(BE (Qk (Qa 0) 36) (Qk (Qa 1) 30) (Qa 1))]
def IP:List SX:=[(sIf (tE (Zz (Qa 1) (Qk (Qa 0) 36))) [Qq] []),(QA (Qi (Qk (Qa 0) 36) (Qa 1)))]
def BN:List SX:=[(sIf (tE (eEq (Qi (Qa 1) (Qj 0)) (Qs 6))) [Qq] []),(sIf (tE (eEq (Qi (Qa 1) (Qj 0)) (Qs 2))) [Qq] []),(sIf (tOr [(tE (eNe (Qi (Qa 1) (Qj 0)) (Qs 0))),(tE (eEq (Qa 1) (JF Zb)))]) [Qq] []),(sSet 2 (Qx (Qa 0) 37 [(Qi (Qa 1) (Qj 1))])),(QA (Qn 2 [(Qk (Qa 2) 32),(Qx (Qa 2) 38 [(Qi (Qa 1) (Qj 2))])]))]
def Uy:List SX:=[(sSet 2 (QE [(Qa 1)])),(ZA (tE (eNe (Qi (Qa 2) (Tc (Qj 1))) (JF Zb))) [(sExp (Q8 (Qa 2) (Qx (Qa 0) 39 [(Qi (Qa 2) (Tc (Qj 1)))])))]),(QA (Qa 2))]
def WI:List SX:=[(sIf (tE (eEq (Qi (Qa 1) (Qj 0)) (Qs 1))) [(QA (WQ [(eIs (Qi (Qa 1) (Qj 2)) QT),(Zz (YH false) (QJ (QO (Qi (Qa 1) (Qj 1))) (.one 2) [] (Qx (Qa 0) 40 [(Qa 2)])))]))] []),(sIf (tE (eEq (Qi (Qa 1) (Qj 0)) (Qs 0))) [(QA (WQ [(T8 (Qk (Qx (Qa 0) 37 [(Qi (Qa 1) (Qj 1))]) 33)),(eEq (Qn 3 [(Qa 1)]) (QE []))]))] []),(QA (eOr [(eEq (Qi (Qa 1) (Qj 0)) (Qs 2)),(WQ [(eEq (Qi (Qa 1) (Qj 0)) (Qs 6)),(eEq (Qn 3 [(Qa 1)]) (QE []))])]))]
def M2:List SX:=[(sAttr (Qa 0) 41 (Qa 1)),(sAttr (Qa 0) 22 (Qa 2)),(sAttr (Qa 0) 23 (Qa 3)),(sAttr (Qa 0) 42 (Qa 4)),(sAttr (Qa 0) 43 (Qa 5)),(sAttr (Qa 0) 44 (Qa 6)),(sAttr (Qa 0) 45 (Qa 7)),(sAttr (Qa 0) 24 (Qa 8)),(sAttr (Qa 0) 46 (Qa 9))]
def Nh:List SX:=[(sIf (tE (eLt (Qa 1) (Qk (Qa 0) 24))) [(QA (YH false))] []),(QA (eOr [(eIs (Qk (Qa 0) 46) QT),(eLt (Qa 1) (Qk (Qa 0) 46))]))]
def Dc:List SX:=[(sAttr (Qa 0) 46 (Qa 1))]
def WZ:List SX:=[(sIf (ZO (tE (Qn 19 [(Qa 0),(Qa 1),(Qa 2)]))) [(QA (YH false))] []),(sIf (ZO (tE (Qn 19 [(Qa 0),(Qa 2),(Qa 1)]))) [(QA (YH true))] []),Qq]
def Bt:List SX:=[(YK (.one 3) (QM (Yl (Qa 1))) [(sIf (Yk [(tE (eNe (Qa 3) (Qa 2))),(ZO (tE (Qn 52 [(Qa 0),(Qi (Qa 1) (Qa 2)),(Qi (Qa 1) (Qa 3))])))]) [(QA (YH false))] [])]),(QA (YH true))]
def Ly:List SX:=[(sIf (tE (eEq (Qa 1) (QE []))) [Qq] []),(sSet 2 (Qj 0)),(YK (.one 3) (N7 (Qj 1) (Yl (Qa 1))) [(sIf (ZO (tE (Qn 52 [(Qa 0),(Qi (Qa 1) (Qa 2)),(Qi (Qa 1) (Qa 3))]))) [(sSet 2 (Qa 3))] [])]),(QA (eIf (tE (Qn 53 [(Qa 0),(Qa 1),(Qa 2)])) (Qa 2) QT))]
def I9:List SX:=[(sAttr (Qa 0) 30 (Qa 1)),(sAttr (Qa 0) 47 (QE []))]
def Dr:List SX:=[(YK (.one 3) (QO (Qk (Qa 0) 47)) [(sIf (Yk [(tE (eIs (Qk (Qa 3) 46) QT)),(tE (Qn 20 [(Qa 2),(Qk (Qa 3) 23),(Qk (Qa 1) 23)]))]) [(sExp (Qx (Qa 3) 48 [(Qk (Qa 1) 24)]))] [])]),(sExp (Q8 (Qk (Qa 0) 47) (Qa 1)))]
def O7:List SX:=[(QA (QJ (QO (Qk (Qa 0) 47)) (.one 2) [(tE (Qx (Qa 2) 49 [(Qa 1)]))] (Qa 2)))]
def ML:List SX:=[(sAttr (Qa 0) 4 (Qa 1)),(sAttr (Qa 0) 21 Zc),(sAttr (Qa 0) 50 (QE [])),(sAttr (Qa 0) 51 (JF (.int 1)))]
def Mo:List SX:=[(sIf (tE (Zz (Qa 1) (Qk (Qa 0) 21))) [(BE (Qk (Qa 0) 21) (Qa 1) (Jl 8 [(Qa 1)]))] []),(QA (Qi (Qk (Qa 0) 21) (Qa 1)))]
def Bh:List SX:=[(sAttr (Qa 0) 51 (Jx (Qk (Qa 0) 51) (Qj 1))),(Hr 1 41 1 24 (QK [(Yl (Qk (Qa 0) 50)),(Qk (Qa 0) 51)])),(sExp (Q8 (Qk (Qa 0) 50) (Qa 1))),(sExp (Qx (Qx (Qa 0) 22 [(Qk (Qa 1) 22)]) 52 [(Qa 1),(Qk (Qa 0) 4)])),(QA (Qa 1))]
def MH:List SX:=[(QA (eIf (tE (eIn (Qa 1) (Qk (Qa 0) 21))) (Qx (Qi (Qk (Qa 0) 21) (Qa 1)) 53 [(Qa 2)]) (QE [])))]
def B1:List SX:=[(sSet 4 (QE [])),(YK (.one 5) (QO (Qx (Qa 0) 53 [(Qa 1),(Qa 3)])) [(sSet 6 (Qn 21 [(Qk (Qa 0) 4),(Qa 2),(Qk (Qa 5) 23)])),(sIf (tE (ZC (Qa 6) QT)) [(sExp (Q8 (Qa 4) (QK [(Qa 5),(Qa 6)])))] [])]),(QA (Qa 4))]
def NO:List SX:=[(sSet 4 (Qx (Qa 0) 54 [(Qa 1),(Qa 2),(Qa 3)])),(sIf (tE (eEq (Qa 4) (QE []))) [(QA (QK [(Qs 22)]))] []),(sSet 5 (eIf (tE (eEq (Yl (Qa 4)) (Qj 1))) (Qj 0) (Qn 54 [(Qk (Qa 0) 4),(QJ (QO (Qa 4)) (.many [6,7]) [] (Qk (Qa 6) 23))]))),(sIf (tE (eIs (Qa 5) QT)) [(QA (QK [(Qs 20),(QJ (QO (Qa 4)) (.many [8,9]) [] (Qa 8))]))] []),(QA (QK [(Qs 19),(Qi (Qi (Qa 4) (Qa 5)) (Qj 0)),(Qi (Qi (Qa 4) (Qa 5)) (Qj 1))]))]
def Wv:List SX:=[(QA (QJ (QO (Qx (Qa 0) 53 [(Qa 1),(Qa 3)])) (.one 4) [(tE (eNe (Qn 30 [(Qk (Qa 0) 4),(Qa 2),(Qk (Qa 4) 23)]) (JF QS)))] (Qa 4)))]
def WS:List SX:=[(YK (.one 4) (QO (Qa 3)) [(sIf (Yk [(tE (eNe (Qk (Qa 4) 41) (Qk (Qa 1) 41))),(tE (Qn 19 [(Qk (Qa 0) 4),(Qa 2),(Qk (Qa 4) 23)]))]) [(sIf (tE (Qn 52 [(Qk (Qa 0) 4),(Qk (Qa 4) 23),(Qk (Qa 1) 23)])) [(QA (YH true))] [])] [])]),(QA (YH false))]
def Zy:List SX:=[(sSet 4 (Qx (Qa 0) 55 [(Qa 1),(Qa 2),(Qa 3)])),(QA (QJ (QO (Qa 4)) (.one 5) [(ZO (tE (Qx (Qa 0) 56 [(Qa 5),(Qa 2),(Qa 4)])))] (Qa 5)))]
def NY:List SX:=[(sIf (ZO (tE (Qx (Qk (Qa 0) 4) 40 [(Qa 2)]))) [(QA (QK [(Qs 21),(Mg (QJ (QO (Qx (Qa 0) 57 [(Qa 1),(Qa 2),(Qa 3)])) (.one 5) [] (Qk (Qa 5) 41)))]))] []),(sSet 4 (Qx (Qa 0) 58 [(Qa 1),(Qa 2),(Qa 3)])),(sIf (tE (eEq (Qi (Qa 4) (Qj 0)) (Qs 19))) [(QA (QK [(Qs 19),(QK [(Qk (Qi (Qa 4) (Qj 1)) 41)])]))] []),(QA (QK [(Qi (Qa 4) (Qj 0)),(eIf (tE (eEq (Qi (Qa 4) (Qj 0)) (Qs 20))) (Mg (QJ (QO (Qi (Qa 4) (Qj 1))) (.one 6) [] (Qk (Qa 6) 41))) (QK []))]))]
def Oz:List SX:=[(sSet 1 (eIf (tE (eGt (Yl (Qa 0)) (Qj 0))) (W2 (Kl (Qa 0))) (Qj 1))),(sSet 2 (T0 (Qa 1) (Tc (Qa 1)))),(QA (QE [(eIf (tE (eGe (Qa 2) (XU (Qj 10) (Qj 18)))) (Qa 2) (Qj 0)),(Jx (PW (Qa 2) (Qj 1000033)) (Qj 23))]))]
def Hg:List SX:=[(sIf (tE (eGt (Qi (Qa 0) (Qj 0)) (Qj 0))) [(sSet 2 (PW (Qi (Qa 0) (Qj 0)) (Qa 1))),(BE (Qa 0) (Qj 0) (Px (Qi (Qa 0) (Qj 0)) (Qa 1))),(QA (Qa 2))] []),(BE (Qa 0) (Qj 1) (PW (Jx (Rk (Qi (Qa 0) (Qj 1)) (Qj 40014)) (Qj 31)) (Qj 2147483563))),(QA (PW (Px (Qi (Qa 0) (Qj 1)) (Qj 32)) (Qa 1)))]
def DV:List SX:=[(QA (QJ (QM (Jx (Qj 1) (Qn 69 [(Qa 0),(Qj 2)]))) (.one 2) [] (Qi (Qa 1) (Qn 69 [(Qa 0),(Yl (Qa 1))]))))]
def DB:List SX:=[(QA (Qn 0 [(Jx (QE [(QK [(Qs 2),(Qa 0)])]) (QJ (QO (Qa 1)) (.one 2) [] (eIf (tE (eEq (Qa 2) (Qs 9))) (JF Zb) (QK [(Qs 0),(Qa 2),(QK [])]))))]))]
def Iy:List SX:=[(QA (WQ [(eEq (Yl (Qa 0)) (Yl (Qa 1))),(eEq (QJ (QM (Yl (Qa 1))) (.one 2) [(tE (Y5 (Qi (Qa 0) (Qa 2)) (Qi (Qa 1) (Qa 2))))] (Qa 2)) (QE []))]))]
def DX:List SX:=[(sIf (tE (eNe (Yl (Qa 0)) (Yl (Qa 1)))) [(QA (YH false))] []),(QA (eEq (QJ (QM (Yl (Qa 0))) (.one 2) [(Yk [(tE (Y5 (Qi (Qa 0) (Qa 2)) (Qi (Qa 1) (Qa 2)))),(tE (Y5 (Qi (Qa 1) (Qa 2)) (Qi (Qa 0) (Qa 2))))])] (Qa 2)) (QE [])))]
def Ib:List SX:=[(sSet 3 (QJ (QM (Yl (Qa 0))) (.one 8) [(Yk [(tE (ZC (Qi (Qa 0) (Qa 8)) QT)),(tE (eEq (Qi (Qi (Qa 0) (Qa 8)) (Qj 0)) (Qa 1)))])] (Qa 8))),(sSet 3 (QJ (QO (Qa 3)) (.one 9) [(tE (Qn 73 [(Qi (Qi (Qa 0) (Qa 9)) (Qj 1)),(Qa 2)]))] (Qa 9))),(sSet 4 (QE [])),(YK (.one 5) (QO (Qa 3)) [(sSet 6 (QJ (QO (Qa 3)) (.one 10) [(Yk [(tE (eNe (Qa 10) (Qa 5))),(tE (Qn 72 [(Qi (Qi (Qa 0) (Qa 5)) (Qj 1)),(Qi (Qi (Qa 0) (Qa 10)) (Qj 1))]))])] (Qa 10))),(sIf (tE (eEq (QJ (QO (Qa 6)) (.one 11) [(tE (Qn 72 [(Qi (Qi (Qa 0) (Qa 11)) (Qj 1)),(Qa 2)]))] (Qa 11)) (QE []))) [(sExp (Q8 (Qa 4) (Qa 5)))] [])]),(sIf (tOr [(tE (eIn (Qs 12) (Qa 2))),(tE (eIn (Qs 9) (Qa 2)))]) [(QA (Qa 4))] []),(sSet 7 (QJ (QO (Qa 3)) (.one 12) [(tE (eEq (QJ (QO (Qa 3)) (.one 13) [(Yk [(tE (eNe (Qa 13) (Qa 12))),(ZO (tE (Qn 72 [(Qi (Qi (Qa 0) (Qa 13)) (Qj 1)),(Qi (Qi (Qa 0) (Qa 12)) (Qj 1))])))])] (Qa 13)) (QE [])))] (Qa 12))),(QA (eIf (tE (eNe (Qa 7) (QE []))) (Qa 7) (Qa 3)))]
def Lm:List SX:=[(sSet 4 (Qx (Qa 0) 52 [(Jl 7 [(Qj 0),(Qa 2),(Qn 71 [(Qa 2),(Qa 3)]),(QE [(Qs 23)]),(YH false),QT,QT])])),(YK (.one 5) (QM (Yl (Qa 1))) [(sIf (tE (eEq (Qi (Qa 1) (Qa 5)) (QK [(Qa 2),(Qa 3)]))) [(BE (Qa 1) (Qa 5) QT)] [])]),(sExp (Q8 (Qa 1) (QK [(Qa 2),(Qa 3)]))),(QA (Qa 4))]
def Qae:List SX:=[(sSet 1 (Qn 68 [(Qa 0)])),(sSet 2 (Jl 6 [])),(YK (.many [3,4]) (QO (QK [(QK [(Qs 13),(Qs 9)]),(QK [(Qs 14),(Qs 9)]),(QK [(Qs 12),(Qs 9)]),(QK [(Qs 10),(Qs 12)]),(QK [(Qs 11),(Qs 12)])])) [(sExp (Qx (Qa 2) 59 [(Jl 5 [(Qa 3),(QE []),(eIf (tE (eEq (Qa 4) (Qs 9))) (JF Zb) (QK [(Qs 0),(Qa 4),(QK [])])),(eIn (Qa 3) (QK [(Qs 13),(Qs 14),(Qs 12)])),(YH false),(QE [])])]))]),(sSetT [5,6] (QK [(Jl 9 [(Qa 2)]),(QE [])])),(YK (.one 7) (QM (Jx (Qj 1) (Qn 69 [(Qa 1),(Qj 3)]))) [(sExp (Qn 75 [(Qa 5),(Qa 6),(Qi (QE [(Qs 15),(Qs 15),(Qs 16)]) (Qn 69 [(Qa 1),(Qj 3)])),(Qn 70 [(Qa 1),(QE [(Qs 10),(Qs 12),(Qs 9),(Qs 11)])])]))]),(sSet 8 (Jl 3 [(Qa 5)])),(sSetT [9,10,11] (QK [(Jl 4 [(Qa 8)]),(QE []),(QE [])])),(YK (.one 12) (QM (Jx (Qj 2) (Qn 69 [(Qa 1),(Qj 3)]))) [(sSet 13 (QE [])),(YK (.one 14) (QM (Jx (Qj 1) (Qn 69 [(Qa 1),(Qj 2)]))) [(sSet 15 (QK [(Qi (QE [(Qs 15),(Qs 16)]) (W2 (eEq (Qn 69 [(Qa 1),(Qj 4)]) (Qj 0)))),(Qn 70 [(Qa 1),(QE [(Qs 10),(Qs 11),(Qs 10),(Qs 12),(Qs 9)])])])),(sExp (Q8 (Qa 13) (Qa 15))),(sExp (Qx (Qa 8) 60 [(Qa 12),(Qi (Qa 15) (Qj 0)),(Qn 71 [(Qi (Qa 15) (Qj 0)),(Qi (Qa 15) (Qj 1))])]))]),(sExp (Qx (Qa 9) 61 [(Qa 12),(Qk (Qa 5) 51)])),(sExp (Q8 (Qa 10) (Qa 13))),(sExp (Q8 (Qa 11) (QK [(Qk (Qa 5) 51),QT])))]),(YK (.one 7) (QM (Jx (Qj 1) (Qn 69 [(Qa 1),(Qj 3)]))) [(sSet 16 (QJ (QO (Qa 10)) (.one 22) [] (QJ (QO (Qa 22)) (.one 23) [] (Qn 74 [(Qa 6),(Qi (Qa 23) (Qj 0)),(Qi (Qa 23) (Qj 1))])))),(sSet 17 (Qn 75 [(Qa 5),(Qa 6),(Qi (QE [(Qs 15),(Qs 15),(Qs 16)]) (Qn 69 [(Qa 1),(Qj 3)])),(Qn 70 [(Qa 1),(QE [(Qs 10),(Qs 12),(Qs 9),(Qs 11)])])])),(sSet 18 (QE [])),(YK (.one 12) (QM (Yl (Qa 10))) [(sIf (Yk [(tE (eIs (Qi (Qi (Qa 11) (Qa 12)) (Qj 1)) QT)),(tE (eNe (QJ (QO (Qi (Qa 10) (Qa 12))) (.one 24) [] (Qn 74 [(Qa 6),(Qi (Qa 24) (Qj 0)),(Qi (Qa 24) (Qj 1))])) (Qi (Qa 16) (Qa 12))))]) [(sExp (Q8 (Qa 18) (Qa 12))),(BE (Qa 11) (Qa 12) (QK [(Qi (Qi (Qa 11) (Qa 12)) (Qj 0)),(Qk (Qa 5) 51)]))] [])]),(sIf (tOr [(tE (eNe (Qx (Qa 9) 62 [(Qa 17)]) (Qa 18))),(tE (eNe (QJ (QM (Yl (Qa 11))) (.one 25) [] (Qx (Qa 9) 15 [(Qa 25)])) (Qa 11)))]) [Qq] [])]),(YK (.one 12) (QM (Yl (Qa 11))) [(YK (.one 19) (QM (Jx (Qk (Qa 5) 51) (Qj 2))) [(sSetT [20,21] (Qi (Qa 11) (Qa 12))),(sIf (tE (eNe (Qx (Qa 9) 63 [(Qa 12),(Qa 19)]) (WQ [(eLe (Qa 20) (Qa 19)),(eOr [(eIs (Qa 21) QT),(eLt (Qa 19) (Qa 21))])]))) [Qq] [])])]),(QA (T8 (Qx (Qa 9) 63 [(Yl (Qa 11)),(Qj 1)])))]
def nth {α:Type}(d:α):List α→Nat→α
 |[],_=>d
 |x::_,0=>x
 |_::l,n+1=>nth d l n
def Nd:Nat→List SX:=nth ([Qq]) [Hk,N2,MU,ND,I7,Nb,OX,MZ,GQ,La,MN,Ia,Zj,MX,BR,UM,Nn,Z2,IG,Ij,Dx,PU,Uu,Ur,Bi,Bu,Uo,We,ZZ,Wg,UX,Ic,IE,UP,Bx,MW,NL,NQ,Md,MV,Mn,Df,BT,IA,NV,IP,BN,Uy,WI,M2,Nh,Dc,WZ,Bt,Ly,I9,Dr,O7,ML,Mo,Bh,MH,B1,NO,Wv,WS,Zy,NY,Oz,Hg,DV,DB,Iy,DX,Ib,Lm,Qae]
def Qm:Nat→Nat×List PV×Nat:=nth ((0,[],0)) [(2,[.none],2),(1,[],2),(2,[],5),(1,[],6),(3,[.none,.int 0],3),(2,[],2),(1,[],3),(1,[],7),(1,[],2),(1,[],1),(3,[],3),(3,[],7),(4,[],6),(3,[],6),(4,[],7),(3,[],4),(3,[],6),(2,[],4),(2,[],8),(4,[.int 4000],6),(3,[],3),(4,[.int 4000],14),(1,[],4),(3,[],3),(2,[],2),(3,[],5),(4,[],5),(4,[],8),(4,[],15),(4,[],7),(3,[],6),(2,[],2),(4,[],5),(3,[],6),(2,[],3),(2,[],2),(3,[],3),(2,[],2),(3,[],5),(3,[],5),(2,[],5),(7,[.bool false,.tup []],7),(2,[],4),(1,[],1),(2,[],9),(2,[],2),(2,[],3),(2,[],3),(2,[],3),(10,[.int 0,.none],10),(2,[],2),(2,[],2),(3,[],3),(3,[],4),(2,[],4),(2,[],2),(3,[],4),(2,[],3),(2,[],2),(2,[],2),(2,[],2),(3,[],3),(4,[],7),(4,[],10),(4,[],5),(4,[],5),(4,[],6),(4,[],7),(1,[],3),(2,[],3),(2,[],3),(2,[],3),(2,[],3),(2,[],3),(3,[],14),(4,[],6),(1,[],26)]
end Mine.Tactic
open PySem.Str (ofString)
open PySem PySem.W PyProof.Rows PySem.Calls
set_option autoImplicit false
namespace Mine.Tactic
def QaR:List Str:=["name","tuple","fn","union","all","var","typeof","n","bottom","Any","K","L","J","Type","Function","f","g","sub","same","one","many","any","none","x"].map ofString
def JY (n:Nat):Str:=QaR.getD n default
def NS:Nat:=24
theorem Ug {a b:Nat}(ha:a<NS)(hb:b<NS)(e:JY a=JY b):a=b:=by
 have h:∀a<NS,∀b<NS,JY a=JY b→a=b:=by decide+kernel
 exact h a ha b hb e
structure Cx where
 prog:Program
 w:World
 g:Heap
 K:Frag
 mg:Str→Option Value
 mb:Str→Option Value
 scr:Addr
 ns:List Int
 clsA:Nat→Addr
 fnA:Nat→Addr
structure Gd (c:Cx):Prop where
 g:c.g.Ns mainGlobals c.mg
 b:c.g.Ns builtinsNs c.mb
 nolimit:c.g.NoLimit
 blt:∀x:Str,x≠"__name__"→c.mb x=bootBuiltins x
 K:c.K.In c.g
 big:∃o,c.g.get? sysModules=some o
structure Mp where
 φ:Nat→Addr
 μ:Nat→Addr
mutual
noncomputable def Val (c:Cx)(m:Mp)(N:Nat)(h:Heap):PV→Value→Prop
 |.none,v=>v=.none
 |.bool b,v=>v=.bool b
 |.int i,v=>∃t,v=.int i t
 |.sym n,v=>n<NS∧∃t,v=.str (JY n) t
 |.tup l,v=>∃a vs,v=.ref a∧h.IsTuple a vs.toArray∧QD c m N h l vs
 |.loc l,v=>l<N∧v=.ref (m.φ l)
 |.scr,v=>v=.ref c.scr
 |.unb,_=>False
noncomputable def QD (c:Cx)(m:Mp)(N:Nat)(h:Heap):List PV→List Value→Prop
 |[],vs=>vs=[]
 |p::ps,vs=>∃v r,vs=v::r∧Val c m N h p v∧QD c m N h ps r
end
theorem QD.length {c:Cx}{m:Mp}{N:Nat}{h:Heap}:∀{ps:List PV} {vs:List Value},QD c m N h ps vs→vs.length=ps.length
 |[],_,e=>by subst e;rfl
 |p::ps,_,e=>by
  obtain⟨v,r,rfl,_,hr⟩:=e
  simp[hr.length]
theorem QD.append {c:Cx}{m:Mp}{N:Nat}{h:Heap}:∀{ps qs:List PV} {vs ws:List Value},QD c m N h ps vs→QD c m N h qs ws→QD c m N h (ps++qs) (vs++ws)
 |[],_,_,_,e,f=>by subst e;exact f
 |p::ps,_,_,_,e,f=>by
  obtain⟨v,r,rfl,hv,hr⟩:=e
  exact⟨_,_,rfl,hv,hr.append f⟩
theorem QD.get {c:Cx}{m:Mp}{N:Nat}{h:Heap}:∀{ps:List PV} {vs:List Value},QD c m N h ps vs→∀{i:Nat} {p:PV},ps[i]?=some p→∃v,vs[i]?=some v∧Val c m N h p v
 |[],_,_,_,_,e=>by simp at e
 |p::ps,_,e,i,q,hq=>by
  obtain⟨v,r,rfl,hv,hr⟩:=e
  cases i with
  |zero=>simp at hq;subst hq;exact⟨v,rfl,hv⟩
  |succ i=>exact hr.get (i:=i) (by simpa using hq)
theorem QD.none {c:Cx}{m:Mp}{N:Nat}{h:Heap}{ps:List PV}{vs:List Value}(x:QD c m N h ps vs){i:Nat}(e:ps[i]?=Option.none):vs[i]?=Option.none:=by
 have:=x.length
 rw[List.getElem?_eq_none_iff]at e ⊢
 exact o114 this e
theorem QD.of_get {c:Cx}{m:Mp}{N:Nat}{h:Heap}:∀{ps:List PV} {vs:List Value},vs.length=ps.length→(∀(i:Nat) p v,ps[i]?=some p→vs[i]?=some v→Val c m N h p v)→QD c m N h ps vs
 |[],vs,hl,_=>by exact List.length_eq_zero_iff.mp hl
 |p::ps,[],hl,_=>by cases hl
 |p::ps,v::vs,hl,hg=>by
  exact⟨v,vs,rfl,hg 0 p v rfl rfl,QD.of_get (by simpa using hl) fun i q u a b=>hg (i+1) q u (by exact a) (by simpa using b)⟩
def YD (h h':Heap):Prop:=∀a its,h.IsTuple a its→h'.IsTuple a its
def Mp.Ext (m m':Mp)(N:Nat):Prop:=∀l,l<N→m'.φ l=m.φ l∧m'.μ l=m.μ l
mutual
theorem Val.mono {c:Cx}{m m':Mp}{N N':Nat}{h h':Heap}(ht:YD h h')(he:m.Ext m' N)(hn:N≤N'):∀{p:PV} {v:Value},Val c m N h p v→Val c m' N' h' p v
 |.none,_,x=>x
 |.bool _,_,x=>x
 |.int _,_,x=>x
 |.sym _,_,x=>x
 |.tup l,_,x=>by
  obtain⟨a,vs,rfl,h1,h2⟩:=x
  exact⟨a,vs,rfl,ht _ _ h1,QD.mono ht he hn h2⟩
 |.loc l,_,x=>by
  exact⟨Nat.lt_of_lt_of_le x.1 hn,by rw[x.2,(he l x.1).1]⟩
 |.scr,_,x=>x
 |.unb,_,x=>False.elim x
theorem QD.mono {c:Cx}{m m':Mp}{N N':Nat}{h h':Heap}(ht:YD h h')(he:m.Ext m' N)(hn:N≤N'):∀{ps:List PV} {vs:List Value},QD c m N h ps vs→QD c m' N' h' ps vs
 |[],_,x=>x
 |p::ps,_,x=>by
  obtain⟨v,r,rfl,hv,hr⟩:=x
  exact⟨v,r,rfl,Val.mono ht he hn hv,QD.mono ht he hn hr⟩
end
def Qbd:List Str:=["rows","many","side","is_asked","kinds","fuel","settled","step","are_concrete","by_form","plain","nominal","supers","run","taken","bounds","is_open","meet_plain","meet_tuples","meet_names","meet","tables","table","sig","world_from","answer","is_hit","edges","users_hit","ends","name","params","super","is_abstract","is_mutable","fields","decls","decl","table_for","super_of","is_concrete","number","names","has_rest","code","tree","world_to","methods","end","is_live","all","world","add","live","fitting","all_fitting","is_hidden","may_be_called","lookup","declare","note","begins","added","holds"].map ofString
def Q6 (n:Nat):Str:=Qbd.getD n default
def NA:Nat:=64
theorem FY {a b:Nat}(ha:a<NA)(hb:b<NA)(e:Q6 a=Q6 b):a=b:=by
 have h:∀a<NA,∀b<NA,Q6 a=Q6 b→a=b:=by decide+kernel
 exact h a ha b hb e
def ZE (c:Cx)(m:Mp)(N:Nat)(h:Heap):List (Nat×PV)→List DictEntry→Prop
 |[],es=>es=[]
 |(k,p)::r,es=>∃e es',es=e::es'∧(∃t,e.key=.str (Q6 k) t)∧k<NA∧Val c m N h p e.val∧ZE c m N h r es'
def Prs (c:Cx)(m:Mp)(N:Nat)(h:Heap)(K:Type)(kr:K→PV→Prop):List (PV×PV)→List (K×Value)→Prop
 |[],kvs=>kvs=[]
 |(k,p)::r,kvs=>∃k' v kvs',kvs=(k',v)::kvs'∧kr k' k∧Val c m N h p v∧Prs c m N h K kr r kvs'
def krI (k:Int)(p:PV):Prop:=p=.int k
def krS (k:Str)(p:PV):Prop:=∃n,n<NS∧p=.sym n∧k=JY n
inductive ZU (c:Cx) (m:Mp) (N:Nat) (h:Heap) (a:Addr) (es:List (PV×PV)):Prop
 |kInt (kvs:List (Int×Value)):h.DictOf (intKind c.prog c.w) a kvs→Prs c m N h Int krI es kvs→ZU c m N h a es
 |kStr (kvs:List (Str×Value)):h.DictOf (strKind c.prog c.w) a kvs→Prs c m N h Str krS es kvs→ZU c m N h a es
def Zo (h:Heap)(a:Addr)(vs:List Value):Prop:=∃n,h.get? a=some {cls:=.type "list",dict:=none,data:=.seq vs.toArray n,slots:=#[]}
theorem Zo.is {h:Heap}{a:Addr}{vs:List Value}(x:Zo h a vs):h.IsList a vs.toArray:=by obtain⟨n,e⟩:=x;exact⟨_,e,rfl,n,rfl⟩
def Jz (c:Cx)(m:Mp)(N:Nat)(h:Heap)(l:Nat):AO→Prop
 |.lst ps=>m.φ l=m.μ l∧∃vs,Zo h (m.μ l) vs∧QD c m N h ps vs
 |.dct es=>m.φ l=m.μ l∧ZU c m N h (m.μ l) es
 |.ins k fs=>h.get? (m.φ l)=some (instObj (c.clsA k) (m.μ l))∧∃es n,h.get? (m.μ l)=some (dictOf es n)∧ZE c m N h fs es
structure Rep (c:Cx) (m:Mp) (σ:H) (h:Heap):Prop where
 base:∀b o,c.g.get? b=some o→h.get? b=some o
 obj:∀l o,σ[l]?=some o→Jz c m σ.length h l o
 new:∀l,l<σ.length→c.g.get? (m.μ l)=none
 inj:∀l l',l<σ.length→l'<σ.length→m.μ l=m.μ l'→l=l'
end Mine.Tactic
namespace Mine.Tactic
theorem YD.of_keep {h h':Heap}(k:∀b o,h.get? b=some o→h'.get? b=some o):YD h h':=fun _ _ x=>by obtain⟨o,e,r⟩:=x;exact⟨o,k _ _ e,r⟩
theorem YD.refl (h:Heap):YD h h:=fun Z Z e=>e
theorem Mp.Ext.refl (m:Mp)(N:Nat):m.Ext m N:=fun Z Z=>⟨rfl,rfl⟩
def Mut (h:Heap)(b:Addr):Prop:=∃o,h.get? b=some o∧(o.cls=.type "list"∨o.cls=.type "dict")
theorem Mut.no_tuple {h:Heap}{b:Addr}(x:Mut h b){its:Array Value}(t:h.IsTuple b its):False:=by
 obtain⟨o,e,hc⟩:=x
 obtain⟨o',e',hc',_⟩:=t
 rw[e]at e';cases e'
 rcases hc with hc|hc<;>(rw[hc]at hc';simp at hc')
theorem Jz.mut {c:Cx}{m:Mp}{N:Nat}{h:Heap}{l:Nat}{o:AO}(x:Jz c m N h l o):Mut h (m.μ l):=by
 cases o with
 |lst ps=>obtain⟨_,vs,⟨n,e⟩,_⟩:=x;exact⟨_,e,.inl rfl⟩
 |dct es=>
  obtain⟨_,d⟩:=x
  cases d with
  |kInt kvs hd _=>obtain⟨o,_,_,e,hc,_⟩:=hd;exact⟨o,e,.inr hc.1⟩
  |kStr kvs hd _=>obtain⟨o,_,_,e,hc,_⟩:=hd;exact⟨o,e,.inr hc.1⟩
 |ins k fs=>obtain⟨_,es,n,e,_⟩:=x;exact⟨_,e,.inr rfl⟩
theorem Jz.phi {c:Cx}{m:Mp}{N:Nat}{h:Heap}{l:Nat}{o:AO}(x:Jz c m N h l o):m.φ l=m.μ l∨∃C d,h.get? (m.φ l)=some (instObj C d):=by
 refine q0 ?_;intro Q;cases o with
 |lst ps=>exact .inl x.1
 |dct es=>exact .inl x.1
 |ins k fs=>exact .inr ⟨_,_,x.1⟩
theorem ZE.mono {c:Cx}{m m':Mp}{N N':Nat}{h h':Heap}(ht:YD h h')(he:m.Ext m' N)(hn:N≤N'):∀{fs:List (Nat×PV)} {es:List DictEntry},ZE c m N h fs es→ZE c m' N' h' fs es
 |[],_,x=>x
 |_::_,_,x=>by obtain⟨e,es',a,b,d,v,r⟩:=x;exact⟨e,es',a,b,d,Val.mono ht he hn v,ZE.mono ht he hn r⟩
theorem Prs.mono {c:Cx}{m m':Mp}{N N':Nat}{h h':Heap}{K:Type}{kr:K→PV→Prop}(ht:YD h h')(he:m.Ext m' N)(hn:N≤N'):∀{es:List (PV×PV)} {kvs:List (K×Value)},Prs c m N h K kr es kvs→Prs c m' N' h' K kr es kvs
 |[],_,x=>x
 |_::_,_,x=>by obtain⟨k',v,kvs',a,b,d,r⟩:=x;exact⟨k',v,kvs',a,b,Val.mono ht he hn d,Prs.mono ht he hn r⟩
theorem Oc {c:Cx}{K:Type} [DecidableEq K]{knd:KeyKind c.prog c.w K}{h h':Heap}{a:Addr}{kvs:List (K×Value)}(x:h.DictOf knd a kvs)(k:∀o,h.get? a=some o→h'.get? a=some o):h'.DictOf knd a kvs:=
 by obtain⟨o,es,ep,ho,r⟩:=x;exact⟨o,es,ep,k o ho,r⟩
theorem Jz.keep {c:Cx}{m m':Mp}{N N':Nat}{h h':Heap}{l:Nat}{o:AO}(x:Jz c m N h l o)(ht:YD h h')(he:m.Ext m' N)(hn:N≤N')(hl:l<N)
  (k1:∀o,h.get? (m.μ l)=some o→h'.get? (m.μ l)=some o) (k2:∀o,h.get? (m.φ l)=some o→h'.get? (m.φ l)=some o):Jz c m' N' h' l o:=by
 obtain⟨e1,e2⟩:=he l hl
 cases o with
 |lst ps=>
  obtain⟨a,vs,⟨n,b⟩,v⟩:=x
  exact⟨by simp only[e1,e2,a],vs,⟨n,by rw[e2];exact k1 _ b⟩,QD.mono ht he hn v⟩
 |dct es=>
  obtain⟨a,d⟩:=x
  refine⟨by simp only[e1,e2,a],?_⟩
  rw[e2]
  cases d with
  |kInt kvs hd p=>exact .kInt kvs (Oc hd k1) (p.mono ht he hn)
  |kStr kvs hd p=>exact .kStr kvs (Oc hd k1) (p.mono ht he hn)
 |ins k fs=>
  obtain⟨a,es,n,b,f⟩:=x
  exact⟨by rw[e1,e2];exact k2 _ a,es,n,by rw[e2];exact k1 _ b,f.mono ht he hn⟩
section
variable {c:Cx} {m:Mp} {σ:H} {h:Heap}
theorem Rep.there (R:Rep c m σ h){l:Nat}(hl:l<σ.length):∃o,σ[l]?=some o∧Jz c m σ.length h l o:=
 ⟨σ[l],by simp[hl],R.obj l _ (by simp[hl])⟩
theorem Rep.mut (R:Rep c m σ h){l:Nat}(hl:l<σ.length):Mut h (m.μ l):=by obtain⟨_,_,x⟩:=R.there hl;exact x.mut
theorem Rep.lt (R:Rep c m σ h){l:Nat}(hl:l<σ.length):m.μ l<h.objs.size:=by obtain⟨_,e,_⟩:=R.mut hl;exact Heap.lt_size e
theorem Rep.phi_ne (R:Rep c m σ h){l l':Nat}(hl:l<σ.length)(hl':l'<σ.length)(hne:l≠l'):m.φ l≠m.μ l':=by
 obtain⟨o,_,x⟩:=R.there hl
 rcases x.phi with e|⟨C,d,e⟩
 ·rw[e];exact fun q=>hne (R.inj _ _ hl hl' q)
 ·intro q
  obtain⟨o',e',hc⟩:=R.mut hl'
  rw[q,e']at e
  clear e';cases e
  rcases hc with hc|hc<;>cases hc
theorem Rg {W:Addr→Prop}{h':Heap}(R:Rep c m σ h)(hW:∀b its,W b→¬h.IsTuple b its)
  (k:∀b o,h.get? b=some o→(∀l,l<σ.length→m.μ l≠b)→¬W b→h'.get? b=some o):YD h h':=fun a its t=>by
 obtain⟨o,e,r⟩:=id t
 exact⟨o,k a o e (fun l hl q=>(R.mut hl).no_tuple (q▸t)) (fun q=>hW _ _ q t),r⟩
theorem Qc {α:Type}{l:List α}{i:Nat}{x:α}(e:l[i]?=some x):i<l.length:=by
 rcases Nat.lt_or_ge i l.length with q|q
 ·exact q
 ·rw[List.getElem?_eq_none q]at e;cases e
theorem Rep.grow {h':Heap}(R:Rep c m σ h)(k:∀b o,h.get? b=some o→h'.get? b=some o):Rep c m σ h':=
 ⟨fun b o e=>k _ _ (R.base b o e),fun l o e=>(R.obj l o e).keep (.of_keep k) (Mp.Ext.refl _ _) (Nat.le_refl _) (Qc e) (fun o e=>k _ _ e) (fun o e=>k _ _ e),R.new,R.inj⟩
theorem Rep.upd {h':Heap}{l:Nat}(R:Rep c m σ h)(hl:l<σ.length)(hs:Heap.SameBut (m.μ l) h h')(o':AO)(ho:YD h h'→Jz c m σ.length h' l o'):Rep c m (σ.set l o') h'∧YD h h':=by
 have ht:YD h h':=fun a its t=>by
  obtain⟨o,e,r⟩:=id t
  exact⟨o,(hs.2 a fun q=>(R.mut hl).no_tuple (q▸t)).trans e,r⟩
 refine⟨⟨fun b o e=>?_,fun l' o e=>?_,fun l' q=>R.new l' (by simpa using q),fun a b qa qb=>R.inj a b (by simpa using qa) (by simpa using qb)⟩,ht⟩
 ·exact(hs.2 b (fun q=>by have h1:=R.new l hl;simp only[←q,e]at h1;cases h1)).trans (R.base b o e)
 ·rw[List.length_set]
  by_cases q:l=l'
  ·subst q
   rw[List.getElem?_set_self hl]at e
   cases e
   exact ho ht
  ·rw[List.getElem?_set_ne q]at e
   have hl':=Qc e
   exact(R.obj l' o e).keep ht (Mp.Ext.refl _ _) (Nat.le_refl _) hl' (fun o e=>(hs.2 _ fun z=>q (R.inj _ _ hl' hl z).symm).trans e) (fun o e=>(hs.2 _ (R.phi_ne hl' hl (Ne.symm q))).trans e)
def Mp.put (m:Mp)(N:Nat)(x d:Addr):Mp:=⟨fun l=>if l=N then x else m.φ l,fun l=>if l=N then d else m.μ l⟩
theorem Mp.put_ext (m:Mp)(N:Nat)(x d:Addr):m.Ext (m.put N x d) N:=fun l hl=>by
 have:l≠N:=Nat.ne_of_lt hl
 simp[Mp.put,this]
theorem Mp.put_φ (m:Mp)(N:Nat)(x d:Addr):(m.put N x d).φ N=x:=by simp[Mp.put]
theorem Mp.put_μ (m:Mp)(N:Nat)(x d:Addr):(m.put N x d).μ N=d:=by simp[Mp.put]
theorem Rep.make {h':Heap}{x d:Addr}{o':AO}(R:Rep c m σ h)(k:∀b o,h.get? b=some o→h'.get? b=some o)(hd:h.get? d=none)
  (ho:Jz c (m.put σ.length x d) (σ.length+1) h' σ.length o'):Rep c (m.put σ.length x d) (σ++[o']) h':=by
 have le:σ.length≤σ.length+1:=Nat.le_succ _
 have ne:∀l,l<σ.length→m.μ l≠d:=fun l hl q=>by
  obtain⟨o,e,_⟩:=R.mut hl
  rw[q,hd]at e;cases e
 refine⟨fun b o e=>k _ _ (R.base b o e),fun l o e=>?_,fun l hl=>?_,fun a b ha hb e=>?_⟩
 ·rw[List.length_append,List.length_singleton]
  refine q2 l o ?_;intro Q;rcases Nat.lt_or_ge l σ.length with q|q
  ·rw[List.getElem?_append_left q]at e
   exact(R.obj l o e).keep (.of_keep k) (Mp.put_ext _ _ _ _) le q (fun o e=>k _ _ e) (fun o e=>k _ _ e)
  ·have hl:=Qc e
   simp only[List.length_append,List.length_singleton]at hl
   have:l=σ.length:=by exact o44 hl q
   clear hl q;subst this
   rw[List.getElem?_append_right (Nat.le_refl _)]at e
   simp at e
   subst e
   exact ho
 ·simp only[List.length_append,List.length_singleton]at hl
  by_cases q:l=σ.length
  ·subst q;rw[Mp.put_μ]
   cases z:c.g.get? d with
   |none=>rfl
   |some o=>rw[R.base _ _ z]at hd;cases hd
  ·rw[(Mp.put_ext m σ.length x d l (by omega)).2];exact R.new l (by omega)
 ·simp only[List.length_append,List.length_singleton]at ha hb
  by_cases qa:a=σ.length<;>by_cases qb:b=σ.length
  ·rw[qa,qb]
  ·subst qa
   rw[Mp.put_μ,(Mp.put_ext m σ.length x d b (by omega)).2]at e
   exact absurd e.symm (ne b (by omega))
  ·subst qb
   rw[Mp.put_μ,(Mp.put_ext m σ.length x d a (by omega)).2]at e
   exact absurd e (ne a (by omega))
  ·rw[(Mp.put_ext m σ.length x d a (by omega)).2,(Mp.put_ext m σ.length x d b (by omega)).2]at e
   exact R.inj a b (by omega) (by omega) e
end
structure Stp (c:Cx) (W:Addr→Prop) (m:Mp) (σ:H) (h:Heap) (m':Mp) (σ':H) (h':Heap):Prop where
 rep:Rep c m' σ' h'
 len:σ.length≤σ'.length
 ext:m.Ext m' σ.length
 fresh:∀l,σ.length≤l→l<σ'.length→h.get? (m'.μ l)=none
 keep:∀b o,h.get? b=some o→(∀l,l<σ.length→m.μ l≠b)→¬W b→h'.get? b=some o
 stay:∀b o,h.get? b=some o→∃o',h'.get? b=some o'
def W0:Addr→Prop:=fun Z=>False
section
variable {c:Cx} {W:Addr→Prop} {m m₁ m₂:Mp} {σ σ₁ σ₂:H} {h h₁ h₂:Heap}
theorem Stp.refl (R:Rep c m σ h):Stp c W m σ h m σ h:=⟨R,Nat.le_refl _,Mp.Ext.refl _ _,fun l a b=>by exact o35 b a,fun Z Z e Z Z=>e,fun Z o e=>⟨o,e⟩⟩
theorem Stp.trans (x:Stp c W m σ h m₁ σ₁ h₁)(y:Stp c W m₁ σ₁ h₁ m₂ σ₂ h₂):Stp c W m σ h m₂ σ₂ h₂:=by
 refine⟨y.rep,Nat.le_trans x.len y.len,fun l hl=>?_,fun l a b=>?_,fun b o e n w=>?_,fun b o e=>?_⟩
 ·have p:=x.ext l hl
  have q:=y.ext l (Nat.lt_of_lt_of_le hl x.len)
  exact⟨q.1.trans p.1,q.2.trans p.2⟩
 ·rcases Nat.lt_or_ge l σ₁.length with q|q
  ·rw[(y.ext l q).2];exact x.fresh l a q
  ·cases z:h.get? (m₂.μ l)with
   |none=>rfl
   |some o=>obtain⟨o',e'⟩:=x.stay _ _ z;rw[y.fresh l q b]at e';cases e'
 ·refine y.keep b o (x.keep b o e n w) (fun l hl z=>?_) w
  rcases Nat.lt_or_ge l σ.length with q|q
  ·exact n l q ((x.ext l q).2.symm.trans z)
  ·have h1:=x.fresh l q hl
   rw[z,e]at h1
   cases h1
 ·obtain⟨o',e'⟩:=x.stay b o e
  exact y.stay b o' e'
theorem Stp.weak {W':Addr→Prop}(x:Stp c W m σ h m₁ σ₁ h₁)(w:∀b,W b→W' b):Stp c W' m σ h m₁ σ₁ h₁:=
 ⟨x.rep,x.len,x.ext,x.fresh,fun b o e n q=>x.keep b o e n fun z=>q (w b z),x.stay⟩
theorem Stp.inner {W':Addr→Prop}(x:Stp c W m σ h m₁ σ₁ h₁)(w:∀b,W b→W' b∨h.get? b=none):Stp c W' m σ h m₁ σ₁ h₁:=
 ⟨x.rep,x.len,x.ext,x.fresh,fun b o e n q=>x.keep b o e n fun z=>(w b z).elim q fun y=>(by rw[e]at y;cases y),x.stay⟩
theorem Stp.grow (R:Rep c m σ h)(k:∀b o,h.get? b=some o→h₁.get? b=some o):Stp c W m σ h m σ h₁:=
 ⟨R.grow k,Nat.le_refl _,Mp.Ext.refl _ _,fun l a b=>by exact o35 b a,fun b o e Z Z=>k b o e,fun b o e=>⟨o,k b o e⟩⟩
theorem Stp.make {x d:Addr}{o':AO}(R:Rep c m σ h)(k:∀b o,h.get? b=some o→h₁.get? b=some o)(hd:h.get? d=none)
  (ho:Jz c (m.put σ.length x d) (σ.length+1) h₁ σ.length o'):Stp c W m σ h (m.put σ.length x d) (σ++[o']) h₁:=
 ⟨R.make k hd ho,by simp,Mp.put_ext _ _ _ _,fun l a b=>by
  simp only[List.length_append,List.length_singleton]at b
  have:l=σ.length:=by exact o70 b a
  clear b a;subst this
  rw[Mp.put_μ];exact hd,fun b o e Z Z=>k b o e,fun b o e=>⟨o,k b o e⟩⟩
theorem Stp.upd {l:Nat}(R:Rep c m σ h)(hl:l<σ.length)(hs:Heap.SameBut (m.μ l) h h₁)(o':AO)(ho:YD h h₁→Jz c m σ.length h₁ l o'):Stp c W m σ h m (σ.set l o') h₁:=by
 refine⟨(R.upd hl hs o' ho).1,by simp,Mp.Ext.refl _ _,fun l' a b=>?_,fun b o e n Z=>(hs.2 b (Ne.symm (n l hl))).trans e,fun b o e=>?_⟩
 ·simp only[List.length_set]at b;exact o35 b a
 ·by_cases q:b=m.μ l
  ·subst q
   obtain⟨o,e,_⟩:=(ho (R.upd hl hs o' ho).2).mut
   exact⟨o,e⟩
  ·exact⟨o,(hs.2 b q).trans e⟩
theorem Stp.tup (x:Stp c W m σ h m₁ σ₁ h₁)(R:Rep c m σ h)(hW:∀b its,W b→¬h.IsTuple b its):YD h h₁:=Rg R hW x.keep
theorem Stp.tup0 (x:Stp c W0 m σ h m₁ σ₁ h₁)(R:Rep c m σ h):YD h h₁:=x.tup R fun Z Z w=>w.elim
theorem Val.stp {p:PV}{v:Value}(y:Val c m σ.length h p v)(x:Stp c W m σ h m₁ σ₁ h₁)(t:YD h h₁):Val c m₁ σ₁.length h₁ p v:=y.mono t x.ext x.len
theorem QD.stp {p:List PV}{v:List Value}(y:QD c m σ.length h p v)(x:Stp c W m σ h m₁ σ₁ h₁)(t:YD h h₁):QD c m₁ σ₁.length h₁ p v:=y.mono t x.ext x.len
end
end Mine.Tactic
namespace Mine.Tactic
noncomputable abbrev Vw:=List (Nat×Str)
def Pp (c:Cx)(m:Mp)(N:Nat)(h:Heap)(env:Env)(x:Str)(p:PV):Prop:=
 (env.kindOf x=some .local∧∃mm,h.Ns env.locals mm∧(p≠.unb→∃v,mm x=some v∧Val c m N h p v))∨
 ((env.kindOf x=some .cell∨env.kindOf x=some .free)∧∃a ov,env.cells.lookup x=some a∧h.IsCell a ov∧(p≠.unb→∃v,ov=some v∧Val c m N h p v))
structure Ym (c:Cx) (sc:Scope) (V:Vw) (env:Env):Prop where
 scp:env.scope=sc
 kind:sc.kind=.function
 glb:env.globals=mainGlobals
 blt:env.builtins=builtinsNs
 newL:c.g.get? env.locals=none
 cells:∀x a,env.cells.lookup x=some a→c.g.get? a=none∧a≠env.locals
 inj:∀x y a,env.cells.lookup x=some a→env.cells.lookup y=some a→x=y
 once:∀i j x,(i,x)∈V→(j,x)∈V→i=j
 fst:∀i x y,(i,x)∈V→(i,y)∈V→x=y
structure Frm (c:Cx) (m:Mp) (σ:H) (h:Heap) (V:Vw) (env:Env) (ρ:Lc):Prop where
 ns:∃mm,h.Ns env.locals mm
 var:∀i x,(i,x)∈V→Pp c m σ.length h env x (Ya ρ i)
 offL:∀l,l<σ.length→m.μ l≠env.locals
 offC:∀x a,env.cells.lookup x=some a→∀l,l<σ.length→m.μ l≠a
 isC:∀x a,env.cells.lookup x=some a→∃ov,h.IsCell a ov
structure AOk (d:Nat) (A:Around):Prop where
 handled:A.handled=none
 depth:A.depth+3*d+4≤recursionLimit
 units:A.units+40*d+100≤cLine
def Yg (c:Cx)(m:Mp)(σ:H)(s:Shared)(P:Mp→H→Heap→Prop)(W:Addr→Prop)(σ':H)(s':Shared):Prop:=
 ∃m' h' t,s'={s with heap:=h',toks:=t}∧Stp c W m σ s.heap m' σ' h'∧P m' σ' h'
def QF (c:Cx)(m:Mp)(σ:H)(s:Shared)(p:PV)(σ':H)(v:Value)(s':Shared):Prop:=
 Yg c m σ s (fun m' σ' h'=>Val c m' σ'.length h' p v) W0 σ' s'
def Snd (c:Cx)(C:CT)(d:Nat)(sc:Scope)(V:Vw)(e:PySem.Expr)(f:EX):Prop:=
 ∀⦃A:Around⦄ ⦃s:Shared⦄ ⦃env:Env⦄ ⦃m:Mp⦄ ⦃σ σ':H⦄ ⦃ρ:Lc⦄ ⦃p:PV⦄,Ym c sc V env→AOk d A→Rep c m σ s.heap→Frm c m σ s.heap V env ρ→f C c.ns ρ σ=some (p,σ')→
  wpAny (model c.prog c.w) A (eval e env) (QF c m σ s p σ') (fun Z Z=>False) s
def Jy (c:Cx)(C:CT)(d:Nat)(sc:Scope)(V:Vw)(e:PySem.Expr)(f:TX):Prop:=
 ∀⦃A:Around⦄ ⦃s:Shared⦄ ⦃env:Env⦄ ⦃m:Mp⦄ ⦃σ σ':H⦄ ⦃ρ:Lc⦄ ⦃b:Bool⦄,Ym c sc V env→AOk d A→Rep c m σ s.heap→Frm c m σ s.heap V env ρ→f C c.ns ρ σ=some (b,σ')→
  wpAny (model c.prog c.w) A (isTrue e env (eval e env)) (fun b' s'=>b'=b∧Yg c m σ s (fun Z Z Z=>True) W0 σ' s') (fun Z Z=>False) s
section
variable {c:Cx} {m m':Mp} {σ σ':H} {h h':Heap} {V:Vw} {env:Env} {ρ:Lc} {sc:Scope}
theorem Pp.mono {N N':Nat}{x:Str}{p:PV}(y:Pp c m N h env x p)(ht:YD h h')(he:m.Ext m' N)(hn:N≤N')(kL:∀o,h.get? env.locals=some o→h'.get? env.locals=some o)
  (kC:∀a o,env.cells.lookup x=some a→h.get? a=some o→h'.get? a=some o):Pp c m' N' h' env x p:=by
 rcases y with ⟨k,mm,a,b⟩|⟨k,a,ov,e,ic,b⟩
 ·obtain⟨o,es,ep,ho,r⟩:=a
  exact .inl ⟨k,mm,⟨o,es,ep,kL _ ho,r⟩,fun q=>by obtain⟨v,e,w⟩:=b q;exact⟨v,e,Val.mono ht he hn w⟩⟩
 ·obtain⟨o,ho,hd⟩:=ic
  exact .inr ⟨k,a,ov,e,⟨o,kC _ _ e ho,hd⟩,fun q=>by obtain⟨v,e,w⟩:=b q;exact⟨v,e,Val.mono ht he hn w⟩⟩
theorem Frm.stp (F:Frm c m σ h V env ρ)(R:Rep c m σ h)(x:Stp c W0 m σ h m' σ' h'):Frm c m' σ' h' V env ρ:=by
 have t:=x.tup0 R
 have kp:∀b o,h.get? b=some o→(∀l,l<σ.length→m.μ l≠b)→h'.get? b=some o:=fun b o e n=>x.keep b o e n fun w=>w
 have off:∀b o,(∀l,l<σ.length→m.μ l≠b)→h.get? b=some o→∀l,l<σ'.length→m'.μ l≠b:=fun b o n lt l hl=>by
  rcases Nat.lt_or_ge l σ.length with q|q
  ·rw[(x.ext l q).2];exact n l q
  ·have:=x.fresh l q hl;exact fun z=>by rw[z,lt]at this;cases this
 obtain⟨mm,hn⟩:=F.ns
 obtain⟨oL,es,ep,hL,r⟩:=id hn
 refine⟨⟨mm,oL,es,ep,kp _ _ hL F.offL,r⟩,fun i y hy=>(F.var i y hy).mono t x.ext x.len (fun o e=>kp _ _ e F.offL) (fun a o e ho=>kp _ _ ho (F.offC y a e)),off _ _ F.offL hL,fun y a e=>?_,fun y a e=>?_⟩
 ·obtain⟨ov,o,ho,_⟩:=F.isC y a e
  exact off a o (F.offC y a e) ho
 ·obtain⟨ov,o,ho,hd⟩:=F.isC y a e
  exact⟨ov,o,kp _ _ ho (F.offC y a e),hd⟩
end
section
variable {c:Cx} {C:CT} {d:Nat} {sc:Scope} {V:Vw}
theorem omN {α:Type}{x:Option Nat}{f:Nat→Option α}{r:α}(h:(match x with|some y=>f y|none=>none)=some r):∃y,x=some y∧f y=some r:=by
 cases x with
 |none=>exact fo h
 |some y=>exact⟨y,rfl,h⟩
theorem omL {α:Type}{x:Option Lc}{f:Lc→Option α}{r:α}(h:(match x with|some y=>f y|none=>none)=some r):∃y,x=some y∧f y=some r:=by
 cases x with
 |none=>exact fo h
 |some y=>exact⟨y,rfl,h⟩
theorem omH {α:Type}{x:Option H}{f:H→Option α}{r:α}(h:(match x with|some y=>f y|none=>none)=some r):∃y,x=some y∧f y=some r:=by
 cases x with
 |none=>exact fo h
 |some y=>exact⟨y,rfl,h⟩
theorem btS {α:Type}{b:Bool}{x:Option α}{r:α}(h:(match b with|true=>x|false=>none)=some r):b=true∧x=some r:=by
 cases b with
 |false=>exact fo h
 |true=>exact⟨rfl,h⟩
theorem itS {α:Type}{c:Prop} [Decidable c]{x:Option α}{r:α}(h:(if c then x else none)=some r):c∧x=some r:=by
 by_cases q:c
 ·rw[if_pos q]at h;exact⟨q,h⟩
 ·rw[if_neg q]at h;exact fo h
theorem Qh {α β:Type}{x:R α}{f:α→H→R β}{r:β×H}(e:Qp x f=some r):∃a h,x=some (a,h)∧f a h=some r:=by
 refine q1 x ?_;intro Q;unfold Qp at e
 split at e
 ·exact⟨_,_,rfl,e⟩
 ·refine q0 ?_;intro Q;cases e
theorem QF.here {m:Mp}{σ:H}{s:Shared}{p:PV}{v:Value}(R:Rep c m σ s.heap)(y:Val c m σ.length s.heap p v):QF c m σ s p σ v s:=⟨m,s.heap,s.toks,rfl,.refl R,y⟩
theorem QF.tok {m:Mp}{σ:H}{s:Shared}{p:PV}{v:Value}{t:Nat}(R:Rep c m σ s.heap)(y:Val c m σ.length s.heap p v):QF c m σ s p σ v {s with toks:=t}:=⟨m,s.heap,t,rfl,.refl R,y⟩
theorem QF.after {m m₁:Mp}{σ σ₁ σ':H}{s:Shared}{h₁:Heap}{t₁:Nat}{p:PV}{v:Value}{s':Shared}(x:Stp c W0 m σ s.heap m₁ σ₁ h₁)
  (y:QF c m₁ σ₁ {s with heap:=h₁,toks:=t₁} p σ' v s'):QF c m σ s p σ' v s':=by
 obtain⟨m',h',t,e,st,v⟩:=y
 exact⟨m',h',t,e,x.trans st,v⟩
theorem Qw {e:PySem.Expr}:Snd c C d sc V e QR:=fun Z Z Z Z Z Z Z Z Z Z Z Z=>fo
theorem Ul {k pos}:Snd c C d sc V (.Constant .none k pos) QT:=fun Z Z Z Z Z Z Z Z Z Z R Z e=>by
 cases e
 exact wpAny_pure (.here R rfl)
theorem K2 {b k pos}:Snd c C d sc V (.Constant (.bool b) k pos) (YH b):=fun Z Z Z Z Z Z Z Z Z Z R Z e=>by
 cases e
 exact wpAny_pure (.here R rfl)
theorem YS {i k pos}:Snd c C d sc V (.Constant (.int i) k pos) (Qj i):=fun Z Z Z Z Z Z Z Z Z Z R Z e=>by
 cases e
 exact wpAny_Constant_int (.tok R (by exact⟨_,rfl⟩))
theorem IF {n:Nat}{x:Str}{k pos}(hn:n<NS)(hx:x=JY n):Snd c C d sc V (.Constant (.str x) k pos) (Qs n):=fun Z Z Z Z Z Z Z Z Z Z R Z e=>by
 cases e
 subst hx
 exact Constant_str (.tok R (by exact⟨hn,_,rfl⟩))
theorem Fz {p:PV}(e:J4 p=true):p≠.unb:=fun q=>by rw[q]at e;cases e
theorem G7 {ρ:Lc}{i:Nat}{p:PV}{σ σ':H}(e:Qa i C c.ns ρ σ=some (p,σ')):Ya ρ i=p∧p≠.unb∧σ'=σ:=by
 obtain⟨k,e⟩:=Q1 e
 exact pS e ⟨rfl,Fz k,rfl⟩
theorem Ua {i:Nat}{x:Str}{pos}(hv:(i,x)∈V)(hd:(x==("__debug__":Str))=false)(hc:(x==("__classdict__":Str))=false):Snd c C d sc V (.Name x pos) (Qa i):=fun Z Z Z Z Z Z Z Z O Z R F e=>by
 obtain⟨e1,e2,e3⟩:=G7 e
 clear e;subst e3
 have kf:=O.kind
 rw[←O.scp]at kf
 rcases F.var i x hv with ⟨k,mm,a,b⟩|⟨k,a,ov,el,ic,b⟩
 ·obtain⟨v,hm,w⟩:=b (by rw[e1];exact e2)
  exact wpAny_Name (wpAny_loadName_local kf k a hm (.here R (by rw[←e1];exact w))) hd
 ·obtain⟨v,rfl,w⟩:=b (by rw[e1];exact e2)
  rcases k with k|k
  ·exact wpAny_Name (wpAny_loadName_cell kf k el ic (.here R (by rw[←e1];exact w))) hd
  ·exact wpAny_Name (wpAny_loadName_free kf k el ic (.here R (by rw[←e1];exact w)) hc) hd
def Xe (c:Cx)(x:Str)(p:PV):Prop:=∃v,c.mg x=some v∧∀m N,Val c m N c.g p v
theorem Tu {x:Str}{p:PV}{pos}(G:Gd c)(hg:Xe c x p)(hk:sc.names.lookup x=some .globalImplicit)(hd:(x==("__debug__":Str))=false):Snd c C d sc V (.Name x pos) (JF p):=fun Z Z Z Z Z Z Z Z O Z R Z e=>by
 cases e
 obtain⟨v,hv,w⟩:=hg
 have kf:=O.kind
 rw[←O.scp]at kf hk
 refine Name_function_global kf hk (loadGlobal_global (mg:=c.mg) (by rw[O.glb];exact G.g.keeps R.base) hv ?_) hd
 exact .here R (Val.mono (.of_keep R.base) (Mp.Ext.refl _ _) (Nat.le_refl _) (w _ _))
end
end Mine.Tactic
namespace Mine.Tactic
def eAt (f:PV→PV→Option Bool)(xs ys:List PV)(j:Nat):Bool:=match xs[j]?,ys[j]? with
 |some x,some y=>(f x y).getD false
 |_,_=>true
set_option tactic.hygienic true in
theorem W3 {f:PV→PV→Option Bool}:∀{xs ys:List PV} {b:Bool},Yq f xs ys=some b→
  (∀(j:Nat) x y,xs[j]?=some x→ys[j]?=some y→f x y=some (eAt f xs ys j))∧b=((List.range (min xs.length ys.length)).all (eAt f xs ys)&&xs.length==ys.length)
 |[],[],b,e=>by cases e;exact⟨fun j x y a Z=>by simp at a,rfl⟩
 |[],_::_,b,e=>by cases e;exact⟨fun j x y a Z=>by simp at a,by simp⟩
 |_::_,[],b,e=>by cases e;exact⟨fun j x y Z a=>by simp at a,by simp⟩
 |x::xs,y::ys,b,e=>by
  refine q1 b ?_;intro Q;unfold Yq at e
  dsimp only at e
  split at e
  ·refine q1 b ?_;intro Q;rename_i a ha
   split at e
   ·rename_i b' hb
    cases e
    obtain⟨h1,h2⟩:=W3 hb
    refine⟨fun j u v p q=>?_,?_⟩
    ·cases j with
     |zero=>simp at p q;subst p q;rw[ha];simp[eAt,ha]
     |succ j=>exact h1 j u v (by simpa using p) (by simpa using q)
    ·rw[h2]
     have e0:eAt f (x::xs) (y::ys) 0=a:=by simp[eAt,ha]
     simp only[List.length_cons,List.length_cons,Nat.succ_min_succ,List.range_succ_eq_map,List.all_cons,List.all_map,e0]
     have:(eAt f (x::xs) (y::ys)∘Nat.succ)=eAt f xs ys:=funext fun j=>rfl
     rewrite [this,Bool.and_assoc]
     simp
   ·refine q0 ?_;intro Q;cases e
  ·refine q0 ?_;intro Q;cases e
section
variable {c:Cx} {m:Mp} {σ:H} {h:Heap}
theorem M8 {h:Heap}{a:Addr}{x y:Array Value}(p:h.IsTuple a x)(q:h.IsTuple a y):x=y:=by
 obtain⟨o,e,_,n,d⟩:=p
 obtain⟨o',e',_,n',d'⟩:=q
 rw[e]at e';cases e'
 rw[d]at d';cases d';rfl
set_option tactic.hygienic true in
theorem QD.same {N:Nat}{f:PV→PV→Option Bool}:∀{ps qs:List PV} {vs:List Value} {b:Bool},(∀p∈ps,∀q v b,Val c m N h p v→Val c m N h q v→f p q=some b→b=true)→
  QD c m N h ps vs→QD c m N h qs vs→Yq f ps qs=some b→b=true
 |[],[],_,_,_,_,_,e=>by cases e;rfl
 |[],q::qs,vs,_,_,x,y,_=>by
  obtain⟨_,_,e,_⟩:=y
  exact nl (e.symm.trans x)
 |p::ps,[],vs,_,_,x,y,_=>by
  obtain⟨_,_,e,_⟩:=x
  exact nl (e.symm.trans y)
 |p::ps,q::qs,vs,b,H,x,y,e=>by
  obtain⟨v,r,rfl,hv,hr⟩:=x
  obtain⟨v',r',e',hv',hr'⟩:=y
  cases e'
  unfold Yq at e
  dsimp only at e
  split at e
  ·rename_i a ha
   split at e
   ·rename_i b' hb
    cases e
    rw[H p (.head _) q v a hv hv' ha,QD.same (fun p hp=>H p (.tail _ hp)) hr hr' hb];rfl
   ·cases e
  ·cases e
theorem Rep.lst (R:Rep c m σ h){l:Nat}{ps:List PV}(e:σ[l]?=some (.lst ps)):m.φ l=m.μ l∧∃vs,h.IsList (m.μ l) vs.toArray∧QD c m σ.length h ps vs:=by obtain⟨a,vs,x,v⟩:=R.obj l _ e;exact⟨a,vs,x.is,v⟩
@[elab_as_elim] theorem vI {α:Type} {r:α} {N:Nat} {p:PV} {v:Value} {k:Int→Option α} {G:Value→Prop} (e:ifI p k=some r) (x:Val c m N h p v) (g:∀i t,k i=some r→G (.int i t)):G v:=by
 revert x
 refine ifI_some e fun i e x=>?_
 obtain⟨t,x⟩:=x
 subst x
 exact g i t e
@[elab_as_elim] theorem vB {α:Type} {r:α} {N:Nat} {p:PV} {v:Value} {k:Bool→Option α} {G:Value→Prop} (e:ifB p k=some r) (x:Val c m N h p v) (g:∀i,k i=some r→G (.bool i)):G v:=by
 revert x
 refine ifB_some e fun i e x=>?_
 subst x
 exact g i e
@[elab_as_elim] theorem vS {α:Type} {r:α} {N:Nat} {p:PV} {v:Value} {k:Nat→Option α} {G:Value→Prop} (e:ifS p k=some r) (x:Val c m N h p v) (g:∀i t,i<NS→k i=some r→G (.str (JY i) t)):G v:=by
 revert x
 refine ifS_some e fun i e x=>?_
 obtain⟨a,t,x⟩:=x
 subst x
 exact g i t a e
@[elab_as_elim] theorem vT {α:Type} {r:α} {N:Nat} {p:PV} {v:Value} {k:List PV→Option α} {G:Value→Prop} (e:ifT p k=some r) (x:Val c m N h p v) (g:∀l a vs,k l=some r→h.IsTuple a vs.toArray→QD c m N h l vs→G (.ref a)):G v:=by
 revert x
 refine ifT_some e fun i e x=>?_
 obtain⟨a,vs,x,y,z⟩:=x
 subst x
 exact g i a vs e y z
@[elab_as_elim] theorem vP {α:Type} {r:α} {N:Nat} {p:PV} {v:Value} {k:Nat→Option α} {G:Value→Prop} (e:ifP p k=some r) (x:Val c m N h p v) (g:∀l,k l=some r→l<N→G (.ref (m.φ l))):G v:=by
 revert x
 refine ifP_some e fun i e x=>?_
 rw[x.2]
 exact g i e x.1
@[elab_as_elim] theorem vL {α:Type} {r:α} {p:PV} {v:Value} {k:Nat→List PV→Option α} {G:Value→Prop} (R:Rep c m σ h) (e:JO σ p k=some r) (x:Val c m σ.length h p v) (g:∀l ps vs,k l ps=some r→σ[l]?=some (.lst ps)→Zo h (m.μ l) vs→QD c m σ.length h ps vs→G (.ref (m.μ l))):G v:=by
 refine vP e x fun l e Z=>?_
 obtain⟨ps,e1,e2⟩:=Zr e
 obtain⟨a,vs,y,z⟩:=R.obj l _ e1
 rw[a]
 exact g l ps vs e2 e1 y z
@[elab_as_elim] theorem vD {α:Type} {r:α} {p:PV} {v:Value} {k:Nat→List (PV×PV)→Option α} {G:Value→Prop} (R:Rep c m σ h) (e:UY σ p k=some r) (x:Val c m σ.length h p v) (g:∀l es,k l es=some r→σ[l]?=some (.dct es)→ZU c m σ.length h (m.μ l) es→G (.ref (m.μ l))):G v:=by
 refine vP e x fun l e Z=>?_
 obtain⟨ps,e1,e2⟩:=Gw e
 obtain⟨a,y⟩:=R.obj l _ e1
 rw[a]
 exact g l ps e2 e1 y
theorem Gp {f:PV→PV→Option Bool}{N:Nat}{p q:PV}{v u:Value}{b:Bool}{G:Bool→Value→Value→Prop}(e:eqS σ f p q=some b)(x:Val c m N h p v)(y:Val c m N h q u)
  (k0:G true .none .none) (k1:∀a vs,h.IsTuple a vs→G false .none (.ref a)) (k2:∀a vs n t,h.IsTuple a vs→G false (.ref a) (.str n t)) (kb:∀i j,G (i==j) (.bool i) (.bool j)) (ki:∀i t j u,G (i==j) (.int i t) (.int j u))
  (ks:∀i t j u,i<NS→j<NS→G (Nat.beq i j) (.str (JY i) t) (.str (JY j) u))
  (kt:∀ps qs a vs a' us,Yq f ps qs=some b→h.IsTuple a vs.toArray→h.IsTuple a' us.toArray→QD c m N h ps vs→QD c m N h qs us→G b (.ref a) (.ref a'))
  (kl:∀l l' ps qs,σ[l]?=some (.lst ps)→σ[l']?=some (.lst qs)→(match Nat.beq ps.length qs.length with|true=>Yq f ps qs|false=>some false)=some b→G b (.ref (m.φ l)) (.ref (m.φ l'))):G b v u:=by
 cases p with
 |none=>
  clear kl kt;obtain rfl:v=.none:=x
  cases q with
  |none=>obtain rfl:u=.none:=y;cases e;exact k0
  |tup l=>obtain⟨a,vs,rfl,ht,_⟩:=y;cases e;exact k1 _ _ ht
  |_=>exact fo e
 |bool i=>clear kl kt;refine vB e y fun j e=>?_;obtain rfl:v=.bool i:=x;cases e;exact kb _ _
 |int i=>clear kl kt;refine vI e y fun j t e=>?_;obtain⟨t,rfl⟩:=x;cases e;exact ki _ _ _ _
 |sym i=>clear kl kt;refine vS e y fun j t hj e=>?_;obtain⟨hi,t,rfl⟩:=x;cases e;exact ks _ _ _ _ hi hj
 |tup l=>
  clear kl;obtain⟨a,vs,rfl,ht,hv⟩:=x
  cases q with
  |tup l=>obtain⟨a',us,rfl,hu,hw⟩:=y;exact kt _ _ _ _ _ _ e ht hu hv hw
  |sym n=>clear kt;obtain⟨_,t,rfl⟩:=y;cases e;exact k2 _ _ _ _ ht
  |_=>exact fo e
 |loc l=>
  refine vP e y fun l' e Z=>?_
  obtain⟨ps,e1,e⟩:=Zr e
  obtain⟨qs,e2,e⟩:=Zr e
  rw[x.2]
  exact kl l l' ps qs e1 e2 e
 |scr=>exact fo e
 |unb=>exact fo e
theorem Ud (R:Rep c m σ h):∀(n:Nat) (p q:PV) (v:Value) (b:Bool),Val c m σ.length h p v→Val c m σ.length h q v→eqV σ n p q=some b→b=true
 |0,_,_,_,_,_,_,e=>fo e
 |n+1,p,q,v,b,x,y,e=>by
  refine Gp (G:=fun b v u=>v=u→b=true) e x y (fun Z=>rfl) (fun Z Z Z e=>Value.noConfusion e) (fun Z Z Z Z Z e=>Value.noConfusion e) (fun i j e=>?_) (fun i t j u e=>?_) (fun i t j u hi hj e=>?_) (fun ps qs a vs a' us e h1 h2 hv hw ea=>?_) (fun l l' ps qs e1 e2 e ea=>?_) rfl
  ·injection e with e;exact beq_iff_eq.mpr e
  ·injection e with e;exact beq_iff_eq.mpr e
  ·injection e with e;rw[Ug hi hj e];exact Nat.beq_refl j
  ·cases ea
   have e2:vs=us:=congrArg Array.toList (M8 h1 h2)
   clear h2;subst e2
   exact QD.same (fun p Z q v b x y e=>Ud R n p q v b x y e) hv hw e
  ·obtain⟨p1,vs,q1,r1⟩:=R.lst e1
   have p2:=(R.lst e2).1
   injection ea with ea
   have:l=l':=R.inj _ _ (Qc e1) (Qc e2) (by simp only[←p1,←p2,ea])
   clear ea p2;subst this
   rw[e1]at e2;cases e2
   rw[Nat.beq_refl]at e
   exact QD.same (fun p Z q v b x y e=>Ud R n p q v b x y e) r1 r1 e
end
end Mine.Tactic
open PySem.SeqAt
namespace Mine.Tactic
section
variable {c:Cx} {m:Mp} {σ:H}
theorem Cp {a b:Nat}(ha:a<NS)(hb:b<NS):(JY a==JY b)=Nat.beq a b:=by
 cases h:Nat.beq a b with
 |true=>rw[Nat.eq_of_beq_eq_true h];simp
 |false=>exact beq_eq_false_iff_ne.mpr fun e=>Nat.ne_of_beq_eq_false h (Ug ha hb e)
theorem els {N:Nat}{h:Heap}{ps qs:List PV}{vs us:List Value}{f:PV→PV→Option Bool}{P:Value→Value→Bool→Prop}(x:QD c m N h ps vs)(y:QD c m N h qs us)
  (H:∀p q v u b,Val c m N h p v→Val c m N h q u→f p q=some b→P v u b) (hf:∀(j:Nat) x y,ps[j]?=some x→qs[j]?=some y→f x y=some (eAt f ps qs j)):
  ∀j (h1:j<vs.toArray.size) (h2:j<us.toArray.size),P vs.toArray[j] us.toArray[j] (eAt f ps qs j):=by
 intro j h1 h2
 have l1:=x.length
 have l2:=y.length
 simp only[List.size_toArray]at h1 h2
 obtain⟨p,hp⟩:∃p,ps[j]?=some p:=⟨ps[j]'(by exact o71 h1 l1),by simp⟩
 obtain⟨q,hq⟩:∃q,qs[j]?=some q:=⟨qs[j]'(by exact o71 h2 l2),by simp⟩
 obtain⟨v,e1,w1⟩:=x.get hp
 obtain⟨u,e2,w2⟩:=y.get hq
 have:=H p q v u _ w1 w2 (hf j p q hp hq)
 clear w1 w2;simp only[List.getElem_toArray]
 rewrite [List.getElem?_eq_getElem h1]at e1
 rw[List.getElem?_eq_getElem h2]at e2
 cases e1;cases e2
 exact this
structure Eq3 (A:Around) (s:Shared) (v u:Value) (b:Bool):Prop where
 e:EqAt A s v u b
 r:RcAt A s v u b
 n:RcNeAt A s v u (!b)
theorem Eq3.refs {A:Around}{s:Shared}{a a':Addr}{b:Bool}(k:Value.ref a=.ref a'→b=true)(r:RcAt A s (.ref a) (.ref a') b)(n:RcNeAt A s (.ref a) (.ref a') (!b)):Eq3 A s (.ref a) (.ref a') b:=by
 refine⟨?_,r,n⟩
 clear n;by_cases q:a=a'
 clear r;· subst q;rw[k rfl];exact EqAt.same _
 ·exact EqAt.of_refs q r
theorem De:∀(n:Nat) {A:Around} {s:Shared} (_:Rep c m σ s.heap) (_:A.units+n<cLine) (p q:PV) (v u:Value) (b:Bool),Val c m σ.length s.heap p v→Val c m σ.length s.heap q u→eqV σ n p q=some b→Eq3 A s v u b
 |0,_,_,_,_,_,_,_,_,_,_,_,e=>fo e
 |n+1,A,s,R,hu,p,q,v,u,b,x,y,e=>by
  have hu0:A.units<cLine:=by exact o115 hu
  have IH:∀p q v u b,Val c m σ.length s.heap p v→Val c m σ.length s.heap q u→eqV σ n p q=some b→EqAt A.in1 s v u b:=fun p q v u b x y e=>(De n R (A:=A.in1) (by show A.units+1+n<cLine;exact o72 hu) p q v u b x y e).e
  refine Gp (G:=fun b v u=>(v=u→b=true)→Eq3 A s v u b) e x y (fun Z=>⟨EqAt.same _,RcAt.none_none,RcNeAt.none_none⟩) (fun a vs h Z=>⟨EqAt.none_tuple h hu0,RcAt.none_tuple h hu0,RcNeAt.none_tuple h hu0⟩)
   (fun a vs n t h Z=>⟨EqAt.tuple_str _ _ h hu0,RcAt.tuple_str _ _ h hu0,RcNeAt.tuple_str _ _ h hu0⟩) (fun i j Z=>⟨EqAt.bool_bool _ _,RcAt.bool_bool _ _,RcNeAt.bool_bool _ _⟩) (fun i t j u Z=>⟨EqAt.int_int _ _ _ _,RcAt.int_int _ _ _ _,RcNeAt.int_int _ _ _ _⟩)
   (fun i t j u hi hj Z=>Cp hi hj▸⟨EqAt.str_str _ _ _ _,RcAt.str_str _ _ _ _,RcNeAt.str_str _ _ _ _⟩) (fun ps qs a vs a' us e ht ht' hv hv' key=>?_) (fun l l' ps qs e1 e2 e key=>?_) fun q=>Ud R (n+1) _ _ _ _ x (q▸y) e
  ·obtain⟨h1,h2⟩:=W3 e
   have he:=els (P:=fun v u b=>EqAt A.in1 s v u b) hv hv' IH h1
   have eb:b=((List.range (min vs.toArray.size us.toArray.size)).all (eAt (eqV σ n) ps qs)&&vs.toArray.size==us.toArray.size):=by
    simp only[h2,List.size_toArray,List.size_toArray,hv.length,hv'.length]
   exact .refs key (eb▸RcAt.tuples ht ht' hu0 he) (eb▸RcNeAt.tuples ht ht' hu0 he)
  ·obtain⟨p1,vs,q1,r1⟩:=R.lst e1
   obtain⟨p2,us,q2,r2⟩:=R.lst e2
   revert key
   rw[p1,p2]
   intro key
   have l1:=r1.length
   have l2:=r2.length
   cases z:Nat.beq ps.length qs.length with
   |true=>
    simp only[z]at e
    have hlen:=Nat.eq_of_beq_eq_true z
    obtain⟨h1,h2⟩:=W3 e
    have he:=els (P:=fun v u b=>EqAt A.in1 s v u b) r1 r2 IH h1
    have hsz:vs.toArray.size=us.toArray.size:=by simp only[List.size_toArray,List.size_toArray,l1,l2,hlen]
    have eb:b=(List.range vs.toArray.size).all (eAt (eqV σ n) ps qs):=by
     simp only[h2,hlen,Nat.min_self,List.size_toArray,l1,hlen,beq_self_eq_true,Bool.and_true]
    exact .refs key (eb▸RcAt.lists q1 q2 hsz hu0 he) (eb▸RcNeAt.lists q1 q2 hsz hu0 he)
   |false=>
    rw[z]at e
    cases e
    have hsz:(vs.toArray.size !=us.toArray.size)=true:=by
     simp only[List.size_toArray,List.size_toArray,l1,l2]
     exact bne_iff_ne.mpr (Nat.ne_of_beq_eq_false z)
    exact .refs key (RcAt.lists_lengths q1 q2 hsz hu0) (RcNeAt.lists_lengths q1 q2 hsz hu0)
end
def O1 (c:Cx)(d:Nat)(T:Value→Sem Value)(f:PV→H→R PV):Prop:=∀⦃A:Around⦄ ⦃s:Shared⦄ ⦃m:Mp⦄ ⦃σ σ':H⦄ ⦃p q:PV⦄ ⦃v:Value⦄,AOk d A→Rep c m σ s.heap→Val c m σ.length s.heap p v→f p σ=some (q,σ')→
 wpAny (model c.prog c.w) A (T v) (QF c m σ s q σ') (fun Z Z=>False) s
def O2 (c:Cx)(d:Nat)(T:Value→Value→Sem Value)(f:PV→PV→H→R PV):Prop:=∀⦃A:Around⦄ ⦃s:Shared⦄ ⦃m:Mp⦄ ⦃σ σ':H⦄ ⦃p q r:PV⦄ ⦃v u:Value⦄,AOk d A→Rep c m σ s.heap→Val c m σ.length s.heap p v→Val c m σ.length s.heap q u→f p q σ=some (r,σ')→
 wpAny (model c.prog c.w) A (T v u) (QF c m σ s r σ') (fun Z Z=>False) s
section
variable {c:Cx} {C:CT} {d:Nat} {sc:Scope} {V:Vw}
theorem JT {b:Option Bool}{h h':H}{r:PV}(e:WN b h=some (r,h')):∃k,b=some k∧r=.bool k∧h'=h:=by
 cases b with
 |none=>exact fo e
 |some k=>cases e;exact⟨_,rfl,rfl,rfl⟩
theorem QF.bool {m:Mp}{σ:H}{s:Shared}{b:Bool}(R:Rep c m σ s.heap):QF c m σ s (.bool b) σ (.bool b) s:=.here R rfl
theorem QF.boolT {m:Mp}{σ:H}{s:Shared}{b:Bool}{t:Nat}(R:Rep c m σ s.heap):QF c m σ s (.bool b) σ (.bool b) {s with toks:=t}:=.tok R rfl
theorem AOk.eq {A:Around}(x:AOk d A):A.units+EQ<cLine:=by have:=x.units;unfold EQ;exact o116 this
theorem AOk.eq1 {A:Around}(x:AOk d A):A.in1.units+EQ<cLine:=by have:=x.units;show A.units+1+EQ<cLine;exact o117 this
theorem Kb:O2 c d (compareOp .Eq) eqO:=fun Z Z Z Z Z Z Z Z Z Z AK R x y e=>by
 obtain⟨k,e1,rfl,rfl⟩:=JT e
 exact(De EQ R AK.eq _ _ _ _ _ x y e1).r c.prog c.w _ _ (.bool R)
theorem SV:O2 c d (compareOp .NotEq) neO:=fun Z Z Z Z Z Z Z Z Z Z AK R x y e=>by
 obtain⟨k,e1,rfl,rfl⟩:=JT e
 clear e;obtain⟨k',e2,rfl⟩:=Option.map_eq_some_iff.mp e1
 exact(De EQ R AK.eq _ _ _ _ _ x y e2).n c.prog c.w _ _ (.bool R)
theorem MI {T:Value→Value→Sem Value}{f:Int→Int→Option PV}(g:∀{A:Around} {s:Shared} {m:Mp} {σ:H} {i j:Int} {t u:Tok} {r:PV},Rep c m σ s.heap→f i j=some r→wpAny (model c.prog c.w) A (T (.int i t) (.int j u)) (QF c m σ s r σ) (fun Z Z=>False) s):O2 c d T (iiO f):=fun Z Z Z Z Z Z Z Z Z Z Z R x y e=>by
 refine vI e x fun i t e=>vI e y fun j u e=>?_
 exact mS e fun a e=>g R e
theorem Am:O2 c d (compareOp .Lt) (NN fun a b=>decide (a<b)):=MI fun R e=>by cases e;exact P.lt_int (.bool R)
theorem Ab:O2 c d (compareOp .LtE) (NN fun a b=>decide (a≤b)):=MI fun R e=>by cases e;exact P.le_int (.bool R)
theorem VQ:O2 c d (compareOp .Gt) (NN fun a b=>decide (b<a)):=MI fun R e=>by cases e;exact P.gt_int (.bool R)
theorem TP:O2 c d (compareOp .GtE) (NN fun a b=>decide (b≤a)):=MI fun R e=>by cases e;exact P.ge_int (.bool R)
end
end Mine.Tactic
namespace Mine.Tactic
theorem YW (h:Heap)(o:Obj):∀b x,h.get? b=some x→(h.push o).get? b=some x:=fun Z Z e=>Heap.get?_push_of_some o e
theorem JL (h:Heap):h.get? h.objs.size=none:=by
 cases e:h.get? h.objs.size with
 |none=>rfl
 |some o=>exact absurd (Heap.lt_size e) (Nat.lt_irrefl _)
theorem Zw {α:Type}{l:List α}(e:QG l=true):l.length≤10000:=Nat.le_of_ble_eq_true e
section
variable {c:Cx} {C:CT} {d:Nat} {sc:Scope} {V:Vw} {m:Mp} {σ:H} {s:Shared}
theorem Val.grow {p:PV}{v:Value}{N:Nat}{h h':Heap}(x:Val c m N h p v)(k:∀b o,h.get? b=some o→h'.get? b=some o):Val c m N h' p v:=x.mono (.of_keep k) (Mp.Ext.refl _ _) (Nat.le_refl _)
theorem QD.grow {p:List PV}{v:List Value}{N:Nat}{h h':Heap}(x:QD c m N h p v)(k:∀b o,h.get? b=some o→h'.get? b=some o):QD c m N h' p v:=x.mono (.of_keep k) (Mp.Ext.refl _ _) (Nat.le_refl _)
theorem QF.newL {h':Heap}{a:Addr}{ps:List PV}{vs:List Value}{t:Nat}(R:Rep c m σ s.heap)(k:∀b o,s.heap.get? b=some o→h'.get? b=some o)
  (ha:s.heap.get? a=none) (hl:Zo h' a vs) (y:QD c m σ.length s.heap ps vs):QF c m σ s (.loc σ.length) (σ++[.lst ps]) (.ref a) {s with heap:=h',toks:=t}:=by
 refine⟨m.put σ.length a a,h',t,rfl,.make R k ha ⟨?_,vs,?_,?_⟩,?_⟩
 ·rw[Mp.put_φ,Mp.put_μ]
 ·rw[Mp.put_μ];exact hl
 ·exact y.mono (.of_keep k) (Mp.put_ext _ _ _ _) (Nat.le_succ _)
 ·show Val c (m.put σ.length a a) (σ++[AO.lst ps]).length h' (.loc σ.length) _
  rw[List.length_append];exact⟨Nat.lt_succ_self _,by rw[Mp.put_φ]⟩
theorem OA (h:Heap)(vs:List Value):Zo (h.push {cls:=.type "list",data:=.seq vs.toArray}) h.objs.size vs:=⟨_,Heap.get?_push_size _ rfl⟩
theorem QF.pushL {ps:List PV}{vs:List Value}{t:Nat}(R:Rep c m σ s.heap)(y:QD c m σ.length s.heap ps vs):
  QF c m σ s (.loc σ.length) (σ++[.lst ps]) (.ref s.heap.objs.size) {s with heap:=s.heap.push {cls:=.type "list",data:=.seq vs.toArray},toks:=t}:=
 .newL R (YW _ _) (JL _) (OA _ _) y
theorem QF.newT {h':Heap}{a:Addr}{ps:List PV}{vs:List Value}{t:Nat}(R:Rep c m σ s.heap)(k:∀b o,s.heap.get? b=some o→h'.get? b=some o)
  (hl:h'.IsTuple a vs.toArray) (y:QD c m σ.length s.heap ps vs):QF c m σ s (.tup ps) σ (.ref a) {s with heap:=h',toks:=t}:=
 ⟨m,h',t,rfl,.grow R k,by show Val c m σ.length h' (.tup ps) _;exact⟨a,vs,rfl,hl,y.grow k⟩⟩
theorem Gx (h:Heap)(vs:Array Value):(h.push {cls:=.type "tuple",data:=.seq vs}).IsTuple h.objs.size vs:=⟨_,Heap.get?_push_size _ rfl,rfl,_,rfl⟩
theorem QF.pushT {ps:List PV}{vs:List Value}{t:Nat}(R:Rep c m σ s.heap)(y:QD c m σ.length s.heap ps vs):
  QF c m σ s (.tup ps) σ (.ref s.heap.objs.size) {s with heap:=s.heap.push {cls:=.type "tuple",data:=.seq vs.toArray},toks:=t}:=
 .newT R (YW _ _) (Gx _ _) y
theorem QF.intT {i:Int}{t u:Nat}(R:Rep c m σ s.heap):QF c m σ s (.int i) σ (.int i u) {s with toks:=t}:=.tok R (by exact⟨_,rfl⟩)
theorem Jt {l:List PV}{h h':H}{r:PV}(e:newL l h=some (r,h')):l.length≤10000∧r=.loc h.length∧h'=h++[.lst l]:=by
 obtain⟨k,e⟩:=Q1 e
 exact pS e ⟨Zw k,rfl,rfl⟩
theorem Mq {l:List PV}{h h':H}{r:PV}(e:mkT l h=some (r,h')):l.length≤10000∧r=.tup l∧h'=h:=by
 obtain⟨k,e⟩:=Q1 e
 exact pS e ⟨Zw k,rfl,rfl⟩
theorem JQ:(20000:Nat)≤sizeLine:=by decide+kernel
theorem Xu:O2 c d (binaryOp .Sub) Ei:=MI fun R e=>by cases e;exact PyProof.Rows.sub_int (.intT R)
theorem Aw {a b:Int}(h:Yt a=true):IntMulOk a b:=by
 have h:=abR (of_decide_eq_true h)
 exact .of_left (intBits_le_64 (Int.lt_of_lt_of_le (by decide) h.1) (Int.lt_trans h.2 (by decide)))
theorem Ad:O2 c d (binaryOp .Mult) RS:=MI fun R e=>by
 obtain⟨k,e⟩:=Q1 e
 cases e
 exact PyProof.Rows.mul_int (.intT R) (Aw (Bool.and_eq_true_iff.mp k).1)
theorem Ga {i j:Int}{x:Option PV}{r:PV}(e:gd (Zx j) x=some r):0<j∧j<4611686018427387904∧x=some r:=
 have k:=Q1 e
 have k1:=Bool.and_eq_true_iff.mp k.1
 ⟨of_decide_eq_true k1.1,of_decide_eq_true k1.2,k.2⟩
theorem Xb:O2 c d (binaryOp .Mod) E7:=MI fun{_ _ _ _ i _ _ _ _} R e=>by
 obtain⟨k1,k2,e⟩:=Ga (i:=i) e
 cases e
 exact PyProof.Rows.mod_int (by exact o119 k1) (.intT R)
theorem Xt:O1 c d (unaryOp .USub) VU:=fun Z Z Z Z Z Z Z Z Z R x e=>by
 refine vI e x fun i t e=>pS e ?_
 exact PyProof.Rows.neg_int (.intT R)
theorem Xm:O2 c d (binaryOp .Pow) CJ:=MI fun R e=>by
 obtain⟨k,e⟩:=Q1 e
 obtain⟨k1,k2⟩:=Bool.and_eq_true_iff.mp k
 clear k;cases e
 clear e;obtain rfl:=of_decide_eq_true k1
 obtain rfl:=of_decide_eq_true k2
 exact PyProof.Rows.pow_int (by decide) (by decide+kernel) (by rw[show(10:Int) ^ (18:Int).toNat=1000000000000000000 by decide];exact .intT R)
theorem Cs:O1 c d (unaryOp .Not) EV:=fun Z Z Z Z Z Z Z Z Z R x e=>by
 refine vB e x fun b e=>pS e ?_
 exact not_of (wpAny_truthy_bool (.bool R))
theorem FU {a b:Int}(h:b.natAbs<4611686018427387904):Builtin.divisionGoesByPylong a b=false:=by
 refine PyProof.noPylong_of_log2 ?_
 by_cases h0:b.natAbs=0
 ·rw[h0];decide+kernel
 ·have:b.natAbs.log2<62:=(Nat.log2_lt h0).mpr h
  exact Nat.lt_trans this (by decide)
theorem XP:O2 c d (binaryOp .FloorDiv) L4:=MI fun{_ _ _ _ i _ _ _ _} R e=>by
 obtain⟨k1,k2,e⟩:=Ga (i:=i) e
 cases e
 exact PyProof.Rows.floordiv_int (by exact o120 k1 k2) (.intT R) (.inl (FU (Int.ofNat_lt.mp (by rw[Int.natAbs_of_nonneg (Int.le_of_lt k1)];exact k2))))
theorem TN (R:Rep c m σ s.heap){l:Nat}{ps:List PV}(e:σ[l]?=some (.lst ps)){v:Value}(x:Val c m σ.length s.heap (.loc l) v):∃vs,v=.ref (m.μ l)∧Zo s.heap (m.μ l) vs∧QD c m σ.length s.heap ps vs:=by
 obtain⟨p1,vs,q,r⟩:=R.obj l _ e
 exact⟨vs,by simp only[x.2,p1],q,r⟩
theorem V9 (R:Rep c m σ s.heap){l:Nat}{ps:List (PV×PV)}(e:σ[l]?=some (.dct ps)){v:Value}(x:Val c m σ.length s.heap (.loc l) v):v=.ref (m.μ l)∧ZU c m σ.length s.heap (m.μ l) ps:=by
 obtain⟨p1,q⟩:=R.obj l _ e
 exact⟨by simp only[x.2,p1],q⟩
theorem FD {h:Heap}{a:Addr}{its:Array Value}{G:Prop}(t:h.IsTuple a its)(g:∀dd n sl,h.get? a=some ⟨.type "tuple",dd,.seq its n,sl⟩→G):G:=by
 obtain⟨⟨cls,dd,data,sl⟩,ho,hc,n,hd⟩:=t
 cases hc
 cases hd
 exact g _ _ _ ho
theorem KW {N:Nat}{h:Heap}{a b:List PV}{vs us:List Value}(x:QD c m N h a vs)(y:QD c m N h b us)(k:(a++b).length≤10000):vs.toArray.size+us.toArray.size≤sizeLine:=by
 rw[List.size_toArray,List.size_toArray,x.length,y.length,←List.length_append];exact Nat.le_trans k (Nat.le_trans (by decide) JQ)
theorem GE {N:Nat}{h:Heap}{a:List PV}(x:QD c m N h a []):a=[]:=List.length_eq_zero_iff.mp x.length.symm
theorem FR:O2 c d (binaryOp .Add) Hp:=fun Z Z Z Z Z Z Z Z Z Z AK R x y e=>by
 refine Yf e (fun e=>MI (f:=fun a b=>some (.int (a+b))) (fun R e=>by cases e;exact PyProof.Rows.add_int (.intT R)) AK R x y e) fun e=>Yf e (fun e=>?_) fun e=>?_
 ·refine vT e x fun ps a vs e ht hv=>vT e y fun qs b ws e hb hw=>?_
  clear y x;obtain⟨k,rfl,rfl⟩:=Mq e
  refine FD ht fun dd n sl ho=>FD hb fun dd2 n2 sl2 ho2=>?_
  cases vs with
  |nil=>
   rw[GE hv]
   exact concat_meets ⟨_,ho,rfl⟩ ⟨_,ho2,rfl⟩ noFill_tuple_add seq_tuple_add PySem.F.slot_tuple_add PySem.F.entry_tuple_add (PySem.F.args_tuple_add_2 _ _)
    (tuple_addW0 a b _ ws.toArray n n2 dd dd2 sl sl2 rfl) ⟨ho,ho2,.here R ⟨b,ws,rfl,hb,hw⟩⟩
  |cons v vs=>
   clear hb;refine q0 ?_;intro Q;cases ws with
   |nil=>
    dsimp only[Q];rw[GE hw,List.append_nil]
    exact concat_meets ⟨_,ho,rfl⟩ ⟨_,ho2,rfl⟩ noFill_tuple_add seq_tuple_add PySem.F.slot_tuple_add PySem.F.entry_tuple_add (PySem.F.args_tuple_add_2 _ _)
     (tuple_addW1 a b _ _ n n2 dd dd2 sl sl2 (by simp) rfl) ⟨ho,ho2,.here R ⟨a,_,rfl,ht,hv⟩⟩
   |cons w ws=>
    refine concat_meets ⟨_,ho,rfl⟩ ⟨_,ho2,rfl⟩ noFill_tuple_add seq_tuple_add PySem.F.slot_tuple_add PySem.F.entry_tuple_add (PySem.F.args_tuple_add_2 _ _)
     (tuple_addW2 a b _ _ n n2 dd dd2 sl sl2 (by simp) (by simp) (KW hv hw k)) ⟨ho,ho2,?_⟩
    rw[List.append_toArray]
    exact .pushT R (hv.append hw)
 ·refine vL R e x fun l ps vs e e1 hl hv=>vL R e y fun l2 qs ws e e2 hb hw=>?_
  obtain⟨n,ho⟩:=hl
  obtain⟨n2,ho2⟩:=hb
  obtain⟨k,rfl,rfl⟩:=Jt e
  refine concat_meets ⟨_,ho,rfl⟩ ⟨_,ho2,rfl⟩ noFill_list_add seq_list_add PySem.F.slot_list_add PySem.F.entry_list_add (PySem.F.args_list_add_2 _ _) (list_addW _ _ vs.toArray ws.toArray n n2 none none #[] #[] (KW hv hw k)) ⟨ho,ho2,?_⟩
  rw[List.append_toArray]
  exact .pushL R (hv.append hw)
end
end Mine.Tactic
namespace Mine.Tactic
structure Kd (c:Cx):Prop extends Gd c where
 scr:∃vs,c.g.IsList c.scr vs.toArray∧IntsAre vs c.ns
 scrN:(c.ns.length:Int)<2 ^ 63
 get:∀cl k,ZV cl k=true→hasDictIn c.K (c.clsA cl)=true∧findIn c.K (.ref (c.clsA cl)) "__getattribute__"=some (some (.builtin "object.__getattribute__"))∧(∃attr,findIn c.K (.ref (c.clsA cl)) (Q6 k)=some attr∧noGet c.K attr=true)∧k<NA
 set:∀cl k,ZV cl k=true→findIn c.K (.ref (c.clsA cl)) "__setattr__"=some (some (.builtin "object.__setattr__"))∧plainOver c.K (c.clsA cl)=true∧takerIn c.K (c.clsA cl) (Q6 k)=some none
theorem Kd.sys {c:Cx}(G:Kd c){a:Addr}(h:c.g.get? a=none):(a==sysModules)=false:=beq_eq_false_iff_ne.mpr fun e=>by obtain⟨o,e'⟩:=G.big;simp only[e,e']at h;cases h
section
variable {c:Cx} {m:Mp} {σ:H} {h:Heap}
theorem IC {h:Heap}{a:Addr}{its:Array Value}{C dd:Addr}(t:h.IsTuple a its)(e:h.get? a=some (instObj C dd)):False:=by
 obtain⟨o,e',hc,_⟩:=t
 rw[e]at e';cases e';cases hc
theorem R8 (R:Rep c m σ h){l k:Nat}(hl:l<σ.length)(hk:k<σ.length)(e:m.φ l=m.φ k):l=k:=by
 obtain⟨o,_,x⟩:=R.there hl
 obtain⟨o',_,y⟩:=R.there hk
 rcases x.phi with e1|⟨C,d,e1⟩
 ·rcases y.phi with e2|⟨C',d',e2⟩
  ·exact R.inj _ _ hl hk (by simp only[←e1,←e2,e])
  ·by_cases q:l=k
   ·exact q
   ·exact absurd (e.symm.trans e1) (R.phi_ne hk hl (Ne.symm q))
 ·cases o with
  |lst ps=>clear y;exact absurd (e.symm.trans x.1) (fun z=>by
    clear e;by_cases q:l=k
    clear z hk;· subst q;obtain⟨o,e',hc⟩:=R.mut hl;rw[←x.1,e1]at e';cases e';rcases hc with hc|hc<;>cases hc
    ·exact R.phi_ne hk hl (Ne.symm q) z)
  |dct ps=>clear y;exact absurd (e.symm.trans x.1) (fun z=>by
    clear e;by_cases q:l=k
    clear z hk;· subst q;obtain⟨o,e',hc⟩:=R.mut hl;rw[←x.1,e1]at e';cases e';rcases hc with hc|hc<;>cases hc
    ·exact R.phi_ne hk hl (Ne.symm q) z)
  |ins c1 fs=>
   cases o' with
   |lst ps=>
    by_cases q:l=k
    ·exact q
    ·exact absurd (e.trans y.1) (R.phi_ne hl hk q)
   |dct ps=>
    by_cases q:l=k
    ·exact q
    ·exact absurd (e.trans y.1) (R.phi_ne hl hk q)
   |ins c2 fs2=>
    obtain⟨x1,_⟩:=x
    obtain⟨y1,_⟩:=y
    rw[e,y1]at x1
    injection x1 with x1
    injection x1 with _ x2
    injection x2 with x2
    exact(R.inj _ _ hk hl x2).symm
theorem IU (G:Kd c)(R:Rep c m σ h):∃vs,h.IsList c.scr vs.toArray∧IntsAre vs c.ns∧∃o,c.g.get? c.scr=some o:=by
 refine q0 ?_;intro Q;obtain⟨vs,⟨o,e,r⟩,i⟩:=G.scr
 exact⟨vs,⟨o,R.base _ _ e,r⟩,i,o,e⟩
theorem Nz (G:Kd c)(R:Rep c m σ h){l:Nat}(hl:l<σ.length)(e:m.φ l=c.scr):False:=by
 obtain⟨o,_,x⟩:=R.there hl
 obtain⟨vs,⟨o',e',hc,_⟩,_,lt⟩:=IU G R
 rcases x.phi with e1|⟨C,d,e1⟩
 ·have:=R.new l hl;obtain⟨o2,lt⟩:=lt;simp only[←e1,e,lt]at this;cases this
 ·rw[e,e']at e1;clear e';cases e1;cases hc
theorem NE (R:Rep c m σ h){l:Nat}(hl:l<σ.length){its:Array Value}(t:h.IsTuple (m.φ l) its):False:=by
 obtain⟨o,_,x⟩:=R.there hl
 rcases x.phi with e1|⟨C,d,e1⟩
 ·rw[e1]at t;exact(R.mut hl).no_tuple t
 ·exact IC t e1
section
variable {N:Nat} {q:PV}
theorem Pj (y:Val c m N h q .none):q=.none:=by
 cases q with
 |none=>rfl
 |int i=>obtain⟨_,y⟩:=y;exact Value.noConfusion y
 |sym i=>obtain⟨_,_,y⟩:=y;exact Value.noConfusion y
 |tup i=>obtain⟨_,_,y,_⟩:=y;exact Value.noConfusion y
 |loc i=>exact Value.noConfusion y.2
 |_=>first|exact Value.noConfusion y|exact False.elim y
theorem RI {b:Bool}(y:Val c m N h q (.bool b)):q=.bool b:=by
 cases q with
 |bool i=>obtain rfl:b=i:=Value.bool.inj y;rfl
 |int i=>obtain⟨_,y⟩:=y;exact Value.noConfusion y
 |sym i=>obtain⟨_,_,y⟩:=y;exact Value.noConfusion y
 |tup i=>obtain⟨_,_,y,_⟩:=y;exact Value.noConfusion y
 |loc i=>exact Value.noConfusion y.2
 |_=>first|exact Value.noConfusion y|exact False.elim y
theorem VV {i:Int}{t:Tok}(y:Val c m N h q (.int i t)):q=.int i:=by
 cases q with
 |int i=>obtain⟨_,y⟩:=y;rw[(Value.int.inj y).1]
 |sym i=>obtain⟨_,_,y⟩:=y;exact Value.noConfusion y
 |tup i=>obtain⟨_,_,y,_⟩:=y;exact Value.noConfusion y
 |loc i=>exact Value.noConfusion y.2
 |_=>first|exact Value.noConfusion y|exact False.elim y
theorem X8 {x:Str}{t:Tok}(y:Val c m N h q (.str x t)):∃n,q=.sym n∧n<NS∧x=JY n:=by
 refine q1 q ?_;intro Q;cases q with
 |int i=>obtain⟨_,y⟩:=y;exact Value.noConfusion y
 |sym i=>obtain⟨k,_,y⟩:=y;exact⟨_,rfl,k,(Value.str.inj y).1⟩
 |tup i=>obtain⟨_,_,y,_⟩:=y;exact Value.noConfusion y
 |loc i=>exact Value.noConfusion y.2
 |_=>first|exact Value.noConfusion y|exact False.elim y
theorem G0 {a:Addr}(y:Val c m N h q (.ref a)){G:PV→Prop}(k1:∀ps vs,h.IsTuple a vs.toArray→QD c m N h ps vs→G (.tup ps))(k2:∀l,l<N→a=m.φ l→G (.loc l))(k3:a=c.scr→G .scr):G q:=by
 cases q with
 |tup l=>obtain⟨_,_,y,ht,hv⟩:=y;cases y;exact k1 _ _ ht hv
 |loc l=>obtain⟨hl,y⟩:=y;injection y with y;exact k2 _ hl y
 |scr=>injection (show Value.ref a=.ref c.scr from y)with y;exact k3 y
 |int i=>obtain⟨_,y⟩:=y;exact Value.noConfusion y
 |sym i=>obtain⟨_,_,y⟩:=y;exact Value.noConfusion y
 |_=>first|exact Value.noConfusion y|exact False.elim y
end
theorem NI (G:Kd c)(R:Rep c m σ h){its:Array Value}(t:h.IsTuple c.scr its):False:=by
 obtain⟨vs',⟨o',e',hc,_⟩,_,_⟩:=IU G R
 obtain⟨o,e,hc',_⟩:=t
 rw[e]at e';cases e';rw[hc]at hc';exact nomatch hc'
mutual
theorem Val.uniq (G:Kd c)(R:Rep c m σ h):∀(p q:PV) (v:Value),Val c m σ.length h p v→Val c m σ.length h q v→p=q
 |.none,q,v,x,y=>by obtain rfl:v=.none:=x;exact(Pj y).symm
 |.bool b,q,v,x,y=>by obtain rfl:v=.bool b:=x;exact(RI y).symm
 |.int i,q,v,x,y=>by obtain⟨t,rfl⟩:=x;exact(VV y).symm
 |.sym n,q,v,x,y=>by
  obtain⟨hn,t,rfl⟩:=x
  obtain⟨k,rfl,hk,e⟩:=X8 y
  rw[Ug hn hk e]
 |.tup ps,q,v,x,y=>by
  obtain⟨a,vs,rfl,ht,hv⟩:=x
  refine G0 y (G:=fun q=>PV.tup ps=q) (fun qs us hu hw=>?_) (fun l hl e=>(NE R hl (e▸ht)).elim) (fun e=>(NI G R (e▸ht)).elim)
  have e2:vs=us:=congrArg Array.toList (M8 ht hu)
  subst e2
  rw[QD.uniq G R ps qs vs hv hw]
 |.loc l,q,v,x,y=>by
  obtain⟨hl,rfl⟩:=x
  refine G0 y (G:=fun q=>PV.loc l=q) (fun qs us hu hw=>(NE R hl hu).elim) (fun k hk e=>by rw[R8 R hl hk e]) (fun e=>(Nz G R hl e).elim)
 |.scr,q,v,x,y=>by
  obtain rfl:v=.ref c.scr:=x
  refine G0 y (G:=fun q=>PV.scr=q) (fun qs us hu hw=>(NI G R hu).elim) (fun k hk e=>(Nz G R hk e.symm).elim) (fun e=>rfl)
 |.unb,_,_,x,_=>x.elim
theorem QD.uniq (G:Kd c)(R:Rep c m σ h):∀(ps qs:List PV) (vs:List Value),QD c m σ.length h ps vs→QD c m σ.length h qs vs→ps=qs
 |[],qs,vs,x,y=>by
  obtain rfl:vs=[]:=x
  exact(GE y).symm
 |p::ps,qs,vs,⟨v,r,x,hv,hr⟩,y=>by
  subst x
  cases qs with
  |nil=>exact nl y
  |cons q qs=>
   obtain⟨_,_,e,hv',hr'⟩:=y
   cases e
   rw[Val.uniq G R p q v hv hv',QD.uniq G R ps qs r hr hr']
end
end
def Hc (σ:H)(x:PV)(y:PV):Bool:=(eqV σ EQ y x).getD false
theorem OB {σ:H}{x:PV}:∀{l:List PV} {b:Bool},anyV σ x l=some b→b=l.any (Hc σ x)∧∀y∈l,eqV σ EQ y x=some (Hc σ x y)
 |[],b,e=>by cases e;exact⟨rfl,fun Z=>nm⟩
 |y::ys,b,e=>by
  refine q1 b ?_;intro Q;have k:∃b',eqV σ EQ y x=some b'∧∃b2,anyV σ x ys=some b2∧b=(b'||b2):=by
   revert e
   show(match eqV σ EQ y x with|some true=>(match anyV σ x ys with|some _=>some true|none=>none)|some false=>anyV σ x ys|none=>none)=some b→_
   cases eqV σ EQ y x with
   |none=>exact fo
   |some b'=>cases anyV σ x ys with
    |none=>cases b'<;>exact fo
    |some b2=>cases b'<;>(intro e;cases e;exact⟨_,rfl,_,rfl,rfl⟩)
  clear e;obtain⟨b',h1,b2,h2,rfl⟩:=k
  obtain⟨rfl,a2⟩:=OB h2
  have:Hc σ x y=b':=by unfold Hc;rw[h1];rfl
  subst this
  exact⟨rfl,fun z hz=>(List.mem_cons.mp hz).elim (fun q=>q▸h1) (a2 z)⟩
section
variable {c:Cx} {C:CT} {d:Nat} {sc:Scope} {V:Vw} {m:Mp} {σ:H} {s:Shared}
open Classical in
theorem G4 (G:Kd c)(R:Rep c m σ s.heap){A:Around}(AK:AOk d A){x:PV}{u:Value}(hx:Val c m σ.length s.heap x u){l:List PV}{vs:List Value}(hv:QD c m σ.length s.heap l vs){b:Bool}(e:anyV σ x l=some b):
  ∃f:Value→Bool,(∀y,y∈vs.toArray→EqAt A.in1 s y u (f y))∧vs.toArray.any f=b:=by
 obtain⟨e1,e2⟩:=OB e
 let f:Value→Bool:=fun v=>decide (∃p,Val c m σ.length s.heap p v∧Hc σ x p=true)
 have key:∀p v,Val c m σ.length s.heap p v→f v=Hc σ x p:=fun p v hp=>by
  cases q:Hc σ x p with
  |true=>exact decide_eq_true ⟨p,hp,q⟩
  |false=>exact decide_eq_false fun x=>by obtain⟨p',hp',q'⟩:=x;rw[Val.uniq G R p' p v hp' hp,q]at q';cases q'
 refine⟨f,fun y hy=>?_,?_⟩
 ·have hy':y∈vs:=by simpa using hy
  obtain⟨i,hi⟩:=List.mem_iff_getElem?.mp hy'
  have hlt:=Qc hi
  rw[hv.length]at hlt
  obtain⟨y',e3,hp⟩:=hv.get (i:=i) (p:=l[i]) (by simp[hlt])
  rw[hi]at e3;cases e3
  rw[key _ _ hp]
  exact(De EQ R AK.eq1 _ _ _ _ _ hp hx (e2 _ (List.getElem_mem hlt))).e
 ·rw[e1]
  simp only[List.any_toArray]
  clear e e1 e2
  induction l generalizing vs with
  |nil=>obtain rfl:vs=[]:=hv;rfl
  |cons p ps ih=>
   obtain⟨v,r,rfl,h1,h2⟩:=hv
   rw[List.any_cons,List.any_cons,key p v h1,ih h2]
end
section
variable {c:Cx} {m:Mp} {N:Nat} {h:Heap} {K:Type} [DecidableEq K] {kr:K→PV→Prop}
structure Mi (c:Cx) (m:Mp) (N:Nat) (h:Heap) (K:Type) [DecidableEq K] (knd:KeyKind c.prog c.w K) (kr:K→PV→Prop):Prop where
 eq:∀{a b:K} {p q:PV} {r:Bool},kr a p→kr b q→keyEq p q=some r→r=decide (a=b)
 is:∀{a:K} {p:PV} {v:Value},kr a p→Val c m N h p v→knd.is a v=true
theorem Hz:Mi c m N h Int (intKind c.prog c.w) krI where
 eq:=fun{a b p q r} x y e=>by
  subst x;subst y;cases e;rfl
 is:=fun{a p v} x y=>by
  subst x
  obtain⟨t,rfl⟩:=y
  exact beq_self_eq_true a
theorem HS:Mi c m N h Str (strKind c.prog c.w) krS where
 eq:=fun{a b p q r} x y e=>by
  obtain⟨n,hn,rfl,rfl⟩:=x;obtain⟨k,hk,rfl,rfl⟩:=y;cases e
  rw[←Cp hn hk];rfl
 is:=fun{a p v} x y=>by
  refine q2 a v ?_;intro Q;obtain⟨n,hn,rfl,rfl⟩:=x;obtain⟨_,t,rfl⟩:=y
  exact strKind_is c.prog c.w _ _
theorem BD {kv:K×Value}{r:List (K×Value)}{k:K}:valueAt (kv::r) k=if kv.1=k then some kv.2 else valueAt r k:=by
 unfold valueAt
 rewrite [List.find?_cons]
 by_cases q:kv.1=k<;>simp[q]
theorem Y6 {k y w:PV}{es:List (PV×PV)}{r:Option PV}(e:QP k ((y,w)::es)=some r):∃b,keyEq y k=some b∧(if b then r=some w else QP k es=some r):=by
 revert e
 show(match keyEq y k with|some true=>some (some w)|some false=>QP k es|none=>none)=some r→_
 cases keyEq y k with
 |none=>exact fo
 |some b=>cases b with
  |true=>intro e;cases e;exact⟨_,rfl,rfl⟩
  |false=>exact fun e=>⟨_,rfl,e⟩
theorem Wc {knd:KeyKind c.prog c.w K}(g:Mi c m N h K knd kr){kk:K}{k:PV}(hk:kr kk k):∀{es:List (PV×PV)} {kvs:List (K×Value)} {r:Option PV},Prs c m N h K kr es kvs→QP k es=some r→
  match r with
  |some p=>∃v,valueAt kvs kk=some v∧Val c m N h p v
  |none=>valueAt kvs kk=none
 |[],kvs,r,x,e=>by obtain rfl:kvs=[]:=x;cases e;rfl
 |(y,w)::es,kvs,r,x,e=>by
  refine q2 kvs r ?_;intro Q;obtain⟨k',v,kvs',x,a1,a2,a3⟩:=x;subst x
  obtain⟨b,q,e⟩:=Y6 e
  have q:=(g.eq a1 hk q).symm
  cases b with
  |true=>
   obtain rfl:=e
   exact⟨v,by rw[BD,if_pos (of_decide_eq_true q)],a2⟩
  |false=>
   have ih:=Wc g hk a3 e
   dsimp only[Q];rw[BD,if_neg (of_decide_eq_false q)]
   exact ih
theorem DZ {kv:K×Value}{r:List (K×Value)}{k:K}{v:Value}(hn:((kv::r).map (·.1)).Nodup):stored (kv::r) k v=if kv.1=k then(kv.1,v)::r else kv::stored r k v:=by
 unfold stored
 rw[List.map_cons,List.nodup_cons]at hn
 by_cases q:kv.1=k
 ·subst q
  simp only[List.any_cons,decide_true,Bool.true_or,if_true,List.map_cons]
  rw[map_store_of_not_mem r _ v hn.1]
 ·have ea:((kv::r).any fun kv=>decide (kv.1=k))=r.any fun kv=>decide (kv.1=k):=by simp only[List.any_cons,decide_eq_false q,Bool.false_or]
  rewrite [ea,if_neg q,List.map_cons,if_neg q]
  split<;>rfl
theorem Pm {knd:KeyKind c.prog c.w K}(g:Mi c m N h K knd kr){kk:K}{k p:PV}{v:Value}(hk:kr kk k)(hp:Val c m N h p v):∀{es:List (PV×PV)} {kvs:List (K×Value)} {r:Option PV},Prs c m N h K kr es kvs→QP k es=some r→(kvs.map (·.1)).Nodup→
  Prs c m N h K kr (JG k p es) (stored kvs kk v)
 |[],kvs,r,x,e,_=>by obtain rfl:kvs=[]:=x;exact⟨kk,v,[],rfl,hk,hp,rfl⟩
 |(y,w)::es,kvs,r,x,e,hn=>by
  obtain⟨k',v',kvs',x,a1,a2,a3⟩:=x;subst x
  obtain⟨b,q,e⟩:=Y6 e
  have q':=(g.eq a1 hk q).symm
  rewrite [DZ hn]
  show Prs c m N h K kr (match keyEq y k with|some true=>(y,p)::es|_=>(y,w)::JG k p es) _
  rw[q]
  clear q;cases b with
  |true=>
   rw[if_pos (of_decide_eq_true q')]
   exact⟨k',v,kvs',rfl,a1,hp,a3⟩
  |false=>
   rw[if_neg (of_decide_eq_false q')]
   rw[List.map_cons,List.nodup_cons]at hn
   exact⟨k',v',_,rfl,a1,a2,Pm g hk hp a3 e hn.2⟩
omit [DecidableEq K] in
theorem Prs.length:∀{es:List (PV×PV)} {kvs:List (K×Value)},Prs c m N h K kr es kvs→kvs.length=es.length
 |[],_,x=>by cases x;rfl
 |_::_,_,x=>by obtain⟨k',v,kvs',x,_,_,a3⟩:=x;cases x;exact congrArg (·+1) (Prs.length a3)
end
section
variable {c:Cx} {m:Mp} {N:Nat} {h:Heap}
theorem ZK {a:Addr}{K K':Type} [DecidableEq K] [DecidableEq K']{knd:KeyKind c.prog c.w K}{knd':KeyKind c.prog c.w K'}(x:h.DictOf knd a []):h.DictOf knd' a []:=by
 obtain⟨o,es,ep,ho,hc,hd,_,hp,_⟩:=x
 have e0:es=#[]:=by
  have:=hp.length
  simp at this
  exact this
 clear hp;subst e0
 exact⟨o,#[],ep,ho,hc,hd,fun e he=>by simp at he,.nil,by simp⟩
theorem ZU.el {a:Addr}{es:List (PV×PV)}(x:ZU c m N h a es){G:Prop}(g:∀{K:Type} [DecidableEq K] {kr:K→PV→Prop} {knd:KeyKind c.prog c.w K} (kvs:List (K×Value)),h.DictOf knd a kvs→Prs c m N h K kr es kvs→G):G:=by
 cases x with
 |kInt kvs hd hp=>exact g kvs hd hp
 |kStr kvs hd hp=>exact g kvs hd hp
theorem ZU.kind {a:Addr}{es:List (PV×PV)}{k:PV}{r:Option PV}{v:Value}(x:ZU c m N h a es)(hk:ZT k=true)(hv:Val c m N h k v)(e:QP k es=some r){G:Prop}
  (g:∀{K:Type} [DecidableEq K] {kr:K→PV→Prop} {knd:KeyKind c.prog c.w K} (_:∀{m N h},Mi c m N h K knd kr) (kvs:List (K×Value)) (kk:K),h.DictOf knd a kvs→Prs c m N h K kr es kvs→kr kk k→knd.is kk v=true→(∀{m N h es} kvs,h.DictOf knd a kvs→Prs c m N h K kr es kvs→ZU c m N h a es)→G):G:=by
 cases k with
 |int i=>
  cases x with
  |kInt kvs hd hp=>exact g Hz kvs i hd hp rfl (Hz.is rfl hv) .kInt
  |kStr kvs hd hp=>
   cases es with
   |nil=>obtain rfl:kvs=[]:=hp;exact g Hz [] i (ZK hd) rfl rfl (Hz.is rfl hv) .kInt
   |cons e0 es=>
    obtain⟨k',v,kvs',_,⟨n,hn,a1,_⟩,_⟩:=hp
    obtain⟨b,q,_⟩:=Y6 (y:=e0.1) (w:=e0.2) e
    rewrite [a1]at q;exact fo q
 |sym n=>
  have hn:=hv.1
  cases x with
  |kStr kvs hd hp=>exact g HS kvs _ hd hp ⟨n,hn,rfl,rfl⟩ (HS.is ⟨n,hn,rfl,rfl⟩ hv) .kStr
  |kInt kvs hd hp=>
   cases es with
   |nil=>obtain rfl:kvs=[]:=hp;exact g HS [] _ (ZK hd) rfl ⟨n,hn,rfl,rfl⟩ (HS.is ⟨n,hn,rfl,rfl⟩ hv) .kStr
   |cons e0 es=>
    obtain⟨k',v,kvs',_,a1,_⟩:=hp
    obtain⟨b,q,_⟩:=Y6 (y:=e0.1) (w:=e0.2) e
    rw[show e0.1=.int k' from a1]at q;exact fo q
 |_=>exact ff hk
end
section
variable {c:Cx} {C:CT} {d:Nat} {sc:Scope} {V:Vw}
theorem Xf (G:Kd c){A:Around}(AK:AOk d A){s:Shared}{m:Mp}{σ:H}(R:Rep c m σ s.heap){p q:PV}{v u:Value}(x:Val c m σ.length s.heap p v)(y:Val c m σ.length s.heap q u){b:Bool}(e:inV p q σ=some b){P:Value→Prop}
  (k1:∀a its f,s.heap.IsTuple a its→(∀y,y∈its→EqAt A.in1 s y v (f y))→its.any f=b→P (.ref a)) (k2:∀a its f,s.heap.IsList a its→(∀y,y∈its→EqAt A.in1 s y v (f y))→its.any f=b→P (.ref a))
  (k3:∀a {K:Type} [DecidableEq K] {knd:KeyKind c.prog c.w K} {kk:K} {f:K→Option Value},knd.is kk v=true→(a==sysModules)=false→s.heap.MapOf knd a f→(f kk).isSome=b→P (.ref a)):P u:=by
 refine Yf e (fun e=>?_) fun e=>Yf e (fun e=>?_) fun e=>?_
 ·refine vT e y fun l a vs e ht hv=>?_
  obtain⟨f,f1,f2⟩:=G4 G R AK x hv e
  exact k1 _ _ f ht f1 f2
 ·refine vL R e y fun l ps vs e e1 hl hv=>?_
  obtain⟨f,f1,f2⟩:=G4 G R AK x hv e
  exact k2 _ _ f hl.is f1 f2
 ·refine vD R e y fun l es e e1 D=>?_
  obtain⟨hk,e⟩:=Q1 e
  obtain⟨r,e2,e3⟩:=Option.map_eq_some_iff.mp e
  clear e;refine D.kind hk x e2 fun g kvs kk hd hp hr hi Z=>k3 _ hi (G.sys (R.new l (Qc e1))) hd.mapOf ?_
  clear k3;have L:=Wc g hr hp e2
  clear e2;subst e3
  cases r with
  |none=>rw[L];rfl
  |some p=>rewrite [L.choose_spec.1];rfl
theorem CH (G:Kd c):O2 c d (compareOp .In) inO:=fun Z Z Z Z Z Z Z Z Z Z AK R x y e=>by
 obtain⟨k,e1,rfl,rfl⟩:=JT e
 exact Xf G AK R x y e1 (P:=fun u=>wpAny _ _ (compareOp .In _ u) _ _ _) (fun a its f h1 h2 h3=>in_tupleAt f h1 h2 (h3▸.bool R)) (fun a its f h1 h2 h3=>in_listAt f h1 h2 (h3▸.bool R)) fun a _ _ _ _ _ h1 h2 h3 h4=>wpAny_in_of h1 h2 h3 (h4▸.boolT R)
theorem H5 (G:Kd c):O2 c d (compareOp .NotIn) I6:=fun Z Z Z Z Z Z Z Z Z Z AK R x y e=>by
 obtain⟨k,e1,rfl,rfl⟩:=JT e
 clear e;obtain⟨k,e2,rfl⟩:=Option.map_eq_some_iff.mp e1
 exact Xf G AK R x y e2 (P:=fun u=>wpAny _ _ (compareOp .NotIn _ u) _ _ _) (fun a its f h1 h2 h3=>notIn_tupleAt f h1 h2 (h3▸.bool R)) (fun a its f h1 h2 h3=>notIn_listAt f h1 h2 (h3▸.bool R)) fun a _ _ _ _ _ h1 h2 h3 h4=>wpAny_notIn_of h1 h2 h3 (h4▸.boolT R)
theorem Hm {m:Mp}{N:Nat}{h:Heap}{p:PV}{v:Value}(x:Val c m N h p v):plainIs v .none=true:=by
 cases p with
 |none=>obtain rfl:v=.none:=x;rfl
 |bool b=>obtain rfl:v=.bool b:=x;rfl
 |int i=>obtain⟨_,rfl⟩:=x;rfl
 |sym i=>obtain⟨_,_,rfl⟩:=x;rfl
 |tup i=>obtain⟨_,_,rfl,_⟩:=x;rfl
 |loc i=>obtain⟨_,rfl⟩:=x;rfl
 |scr=>obtain rfl:v=.ref c.scr:=x;rfl
 |unb=>exact x.elim
theorem RP {p:PV}{b:Bool}(e:nn p=some b):b=true∧p=.none∨b=false∧p≠.none:=by
 refine q2 p b ?_;intro Q;cases p with
 |none=>cases e;exact .inl ⟨rfl,rfl⟩
 |unb=>exact fo e
 |_=>cases e;exact .inr ⟨rfl,PV.noConfusion⟩
theorem Xq {f:Bool→Bool}{A:Around}{s:Shared}{m:Mp}{σ σ':H}{p q r:PV}{v u:Value}(x:Val c m σ.length s.heap p v)(y:Val c m σ.length s.heap q u)(e:isN f p q σ=some (r,σ')){P:PV→H→Value→Value→Prop}
  (k1:P (.bool (f true)) σ .none .none) (k2:plainIs v .none=true→v≠.none→P (.bool (f false)) σ v .none):P r σ' v u:=by
 cases q with
 |none=>
  obtain rfl:u=.none:=y
  obtain⟨b,e1,e2⟩:=Option.map_eq_some_iff.mp e
  clear e;cases e2
  rcases RP e1 with ⟨rfl,rfl⟩|⟨rfl,q⟩
  clear k2;· obtain rfl:v=.none:=x;exact k1
  ·exact k2 (Hm x) fun z=>q (Pj (z▸x))
 |_=>exact fo e
theorem AV:O2 c d (compareOp .Is) isO:=fun{A s m σ σ' p q r v u} AK R x y e=>
 Xq (A:=A) x y e (P:=fun r σ' v u=>wpAny _ _ (compareOp .Is v u) (QF c m σ s r σ') _ _) (wpAny_is_self rfl (.bool R)) fun h1 h2=>wpAny_is_other h1 h2 (.bool R)
theorem HW:O2 c d (compareOp .IsNot) G8:=fun{A s m σ σ' p q r v u} AK R x y e=>
 Xq (A:=A) x y e (P:=fun r σ' v u=>wpAny _ _ (compareOp .IsNot v u) (QF c m σ s r σ') _ _) (wpAny_isNot_self rfl (.bool R)) fun h1 h2=>wpAny_isNot_other h1 h2 (.bool R)
end
end Mine.Tactic
section
open PySem.AutoSeq1 (wpAny_loadPart')
namespace Mine.Tactic
theorem Bn {h:Heap}{l:Addr}{items:Array Value}{n:Nat}(ho:h.get? l=some {cls:=.type "list",dict:=none,data:=.seq items n,slots:=#[]})(f:Array Value→Array Value){vs:List Value}(e:f items=vs.toArray):Zo (h.update l (Obj.mapSeq f)) l vs:=by
 obtain⟨n',hd'⟩:=Obj.data_mapSeq (o:={cls:=.type "list",dict:=none,data:=.seq items n,slots:=#[]}) (n:=n) rfl f
 refine⟨n',?_⟩
 rw[←e,Heap.get?_update_self _ ho (Obj.isFreed_of_seq hd')]
 unfold Obj.mapSeq at hd' ⊢
 simp only at hd' ⊢
 rw[hd']
theorem Gr {prog:Program}{w:World}{A:Around}{E:Value→Shared→Prop}{s:Shared}{l:Addr}{vs:List Value}{k:Int}{t:Tok}{v:Value}{Q:Unit→Shared→Prop}(hx:Zo s.heap l vs)
  (h0:0≤k) (hfit:k<2 ^ 63) (hn:k.toNat<vs.length)
  (hQ:∀h',Zo h' l (vs.set k.toNat v)→Heap.SameBut l s.heap h'→Q () {s with heap:=h'}):
  wpAny (model prog w) A (setItem (.ref l) (.int k t) v) Q E s:=by
 have hl:=hx.is
 obtain⟨n,ho⟩:=hx
 unfold setItem
 try with_reducible refine wpAny_holding ?_
 refine wpAny_bind (wpAny_sequenceKey hl.typeIs (by decide) (wpAny_bind (wpAny_callSpecial?_slot (name:=ofString "__setitem__") hl.typeIs slot_list_setitem
  (wpAny_call_entry slot_list_setitem hl.typeIs entry_list_setitem ?_ (args_list_setitem _ _ _)))))
 show wpAny _ _ (Builtin.List.listSubscript? (.int k t)>>= _) _ _ s
 refine wpAny_bind (wpAny_listSubscript_int (fitsIndex_of h0 hfit) ?_)
 clear hfit;obtain⟨j,rfl⟩:=Int.eq_ofNat_of_zero_le h0
 have hj:j<vs.toArray.size:=by exact hn
 show wpAny _ _ ((seqItemAt l j>>= fun r=>pure (r.map (j,·)))>>= _) _ _ s
 refine wpAny_bind (wpAny_bind (wpAny_seqItemAt ho rfl (wpAny_pure ?_)))
 rw[Array.getElem?_eq_getElem hj]
 have fin:=hQ _ (Bn (vs:=vs.set j v) ho (·.setIfInBounds j v) (by simp)) (Heap.SameBut.update ..)
 show wpAny _ _ (setSeqItemAt l j v>>= _) _ _ s
 refine wpAny_bind (wpAny_setSeqItemAt ho rfl ?_)
 first
  |exact wpAny_bind (wpAny_pure (wpAny_pure ⟨.none,rfl,wpAny_pure fin⟩))
  |exact wpAny_pure ⟨.none,rfl,wpAny_pure fin⟩
section
variable {c:Cx} {C:CT} {d:Nat} {sc:Scope} {V:Vw} {m:Mp} {σ:H} {s:Shared}
theorem Oo {i:Int}(h:Yt i=true):-(2 ^ 63)≤i∧i<2 ^ 63:=by
 exact abR (of_decide_eq_true h)
theorem Ou {l:List PV}{i:Int}{p:PV}(e:Yw l i=some p):-(2 ^ 63)≤i∧i<2 ^ 63∧∃j,seqIndex? i l.length=some j∧l[j]?=some p∧((0≤i∧j=i.toNat)∨(i=-1∧j=l.length - 1∧0<l.length)):=by
 unfold Yw at e
 obtain⟨k,e⟩:=itS e
 ·obtain⟨h1,h2⟩:=Oo k
  refine⟨h1,h2,?_⟩
  split at e
  ·rename_i h0
   have:=Qc e
   exact⟨i.toNat,seqIndex_of h0 (by exact o123 h1 h0 this h2),e,.inl ⟨h0,rfl⟩⟩
  ·split at e
   ·rename_i h0 h3
    subst h3
    have e':=e
    rw[List.getLast?_eq_getElem?]at e'
    have:=Qc e'
    refine⟨l.length - 1,?_,e',.inr ⟨rfl,rfl,by omega⟩⟩
    rw[PySem.seqIndex_neg (by exact o74) (by exact o124 this)];congr 1;exact o125 this
   ·refine q0 ?_;intro Q;cases e
theorem Lh:O2 c d getItem Dp:=fun Z Z Z Z Z Z Z Z Z Z AK R x y e=>by
 refine Yf e (fun e=>?_) fun e=>Yf e (fun e=>?_) fun e=>?_
 ·refine vT e x fun l a vs e ht hv=>vI e y fun i t e=>mS e fun w hw=>?_
  refine q0 ?_;intro Q;obtain⟨h1,h2,j,h3,h4,_⟩:=Ou hw
  obtain⟨z,hz,hz'⟩:=hv.get h4
  exact PyProof.Rows.getItem_tuple (x:=z) (j:=j) ht h1 h2 (by rw[List.size_toArray,hv.length];exact h3) (by rw[List.getElem?_toArray];exact hz) (.here R hz')
 ·refine vL R e x fun l ps vs e el hl hv=>vI e y fun i t e=>mS e fun w hw=>?_
  clear e;refine q1 i ?_;intro Q;have hl:=hl.is
  obtain⟨h1,h2,j,h3,h4,h5⟩:=Ou hw
  clear hw h3;obtain⟨z,hz,hz'⟩:=hv.get h4
  clear h4;have len:=hv.length
  have hz2:vs.toArray[j]?=some z:=by rw[List.getElem?_toArray];exact hz
  clear hz;rcases h5 with ⟨h0,rfl⟩|⟨rfl,rfl,h0⟩
  ·exact wpAny_getItem_list hl h0 h2 hz2 (.here R hz')
  ·have hj:((-1:Int)+(vs.toArray.size:Int)).toNat=vs.length - 1:=by rw[List.size_toArray];exact o126 h0 len
   exact wpAny_getItem_list_neg hl (by exact o74) (by rw[List.size_toArray];exact o127 h0 len) (by omega) (by rw[hj,len];exact hz2) (.here R hz')
 ·refine vD R e x fun l es e el D=>?_
  obtain⟨hk,e⟩:=Q1 e
  obtain⟨r,e1,e2⟩:=Option.bind_eq_some_iff.mp e
  refine mS e2 fun w hw=>?_
  clear e2;subst hw
  refine D.kind hk y e1 fun g kvs kk hd hp hr hi Z=>?_
  obtain⟨z,L,hz⟩:=Wc g hr hp e1
  exact wpAny_getItem_of hi hd.mapOf L (.tok R hz)
theorem LM {p q r:PV}{σ σ':H}{v:Value}(R:Rep c m σ s.heap)(x:Val c m σ.length s.heap p v)(e:Dp p q σ=some (r,σ')):∃T id,s.TypeIs v T∧typeLookup (.type T) "__getitem__"=pure (some (.builtin id)):=by
 refine Yf e (fun e=>?_) fun e=>Yf e (fun e=>?_) fun e=>?_
 ·exact vT e x fun l a vs e ht hv=>⟨"tuple",_,IsTup.typeIs ht,PySem.F.slot_tuple_getitem.lookup⟩
 ·exact vL R e x fun l ps vs e el hl hv=>⟨"list",_,hl.is.typeIs,slot_list_getitem.lookup⟩
 ·exact vD R e x fun l es e el D=>D.el fun kvs hd hp=>⟨"dict",_,hd.typeIs,slot_dict_getitem.lookup⟩
theorem Qac {value slice:PySem.Expr}(hs:∀o i,subscripted slice false o i=operate [o,i] (getItem o i)):O2 c d (subscriptTail value slice) Dp:=fun{A s m σ σ' p q r v u} AK R x y e=>by
 obtain⟨T,id,hT,hl⟩:=LM R x e
 exact tail_any hT hl (Lh AK R x y e) (hs v u)
theorem Ea (R:Rep c m σ s.heap){l k:Nat}{fs:List (Nat×PV)}(e:σ[l]?=some (.ins k fs)){v:Value}(x:Val c m σ.length s.heap (.loc l) v):v=.ref (m.φ l)∧∃es n,InstAt s.heap (m.φ l) (instObj (c.clsA k) (m.μ l)) (c.clsA k) (some (dictOf es n))∧ZE c m σ.length s.heap fs es:=by
 refine q0 ?_;intro Q;obtain⟨h1,es,n,h2,h3⟩:=R.obj l _ e
 exact⟨x.2,es,n,⟨h1,rfl,rfl,h2⟩,h3⟩
@[elab_as_elim] theorem vN {α:Type} {r:α} {p:PV} {v:Value} {k:Nat→Nat→List (Nat×PV)→Option α} {G:Value→Prop} (R:Rep c m σ s.heap) (e:(ifP p fun l=>ifN σ[l]? (k l))=some r) (x:Val c m σ.length s.heap p v)
  (g:∀l cl fs es n,k l cl fs=some r→σ[l]?=some (.ins cl fs)→InstAt s.heap (m.φ l) (instObj (c.clsA cl) (m.μ l)) (c.clsA cl) (some (dictOf es n))→ZE c m σ.length s.heap fs es→G (.ref (m.φ l))):G v:=by
 refine vP e x fun l e Z=>?_
 obtain⟨cl,fs,e1,e⟩:=Mc e
 obtain⟨h1,es,n,h2,h3⟩:=R.obj l _ e1
 exact g l cl fs es n e e1 ⟨h1,rfl,rfl,h2⟩ h3
theorem FL {j k:Nat}(hj:j<NA)(hk:k<NA){v:Value}{t:Tok}(e:v=.str (Q6 j) t):v.isStr (Q6 k)=Nat.beq j k:=by
 subst e
 cases z:Nat.beq j k with
 |true=>rw[Nat.eq_of_beq_eq_true z];exact beq_self_eq_true (Q6 k)
 |false=>exact beq_eq_false_iff_ne.mpr fun e=>Nat.ne_of_beq_eq_false z (FY hj hk e)
theorem U7 {N:Nat}{h:Heap}{k:Nat}(hk:k<NA):∀{fs:List (Nat×PV)} {es:List DictEntry},ZE c m N h fs es→match Z9 k fs with
  |some p=>∃e,es.find? (·.key.isStr (Q6 k))=some e∧Val c m N h p e.val
  |none=>es.find? (·.key.isStr (Q6 k))=none
 |[],es,x=>by cases x;rfl
 |(j,q)::fs,es,x=>by
  refine q1 es ?_;intro Q;obtain⟨e,es',rfl,⟨t,hx⟩,hj,hv,hr⟩:=x
  have ih:=U7 hk hr
  have ne:=FL hj hk hx
  dsimp only[Q];rw[List.find?_cons,ne]
  rw[Rl]
  cases Nat.beq j k with
  |true=>exact⟨e,rfl,hv⟩
  |false=>exact ih
theorem no_refs {N:Nat}{h:Heap}:∀{fs:List (Nat×PV)} {es:List DictEntry},ZE c m N h fs es→es.any (·.refKey)=false
 |[],es,x=>by cases x;rfl
 |(j,q)::fs,es,x=>by
  obtain⟨⟨_,key,_⟩,es',rfl,⟨t,hx⟩,hj,hv,hr⟩:=x
  clear hv;obtain rfl:key=_:=hx
  exact(no_refs hr:es'.any (·.refKey)=false)
theorem TC {N:Nat}{h:Heap}{k:Nat}(hk:k<NA){fs:List (Nat×PV)}{es:List DictEntry}(x:ZE c m N h fs es){p:PV}(e:Z9 k fs=some p):∃v,PySem.W.getL (Q6 k) es=some (some v)∧Val c m N h p v:=by
 have:=U7 hk x
 simp only[e]at this
 obtain⟨en,h1,h2⟩:=this
 exact⟨en.val,by unfold PySem.W.getL;rw[h1],h2⟩
theorem V3 {N:Nat}{h:Heap}{p:PV}{v:Value}(x:Val c m N h p v):handedIn v=true:=by
 cases p with
 |none=>obtain rfl:v=.none:=x;rfl
 |bool b=>obtain rfl:v=.bool b:=x;rfl
 |int i=>obtain⟨_,rfl⟩:=x;rfl
 |sym i=>obtain⟨_,_,rfl⟩:=x;rfl
 |tup i=>obtain⟨_,_,rfl,_⟩:=x;rfl
 |loc i=>obtain⟨_,rfl⟩:=x;rfl
 |scr=>obtain rfl:v=.ref c.scr:=x;rfl
 |unb=>exact x.elim
theorem Ze (G:Kd c)(R:Rep c m σ s.heap):c.K.In s.heap:=fun a o e=>R.base _ _ (G.K a o e)
theorem XH (G:Kd c)(k:Nat):O1 c d (fun o=>getAttr o (Q6 k) true) (Kc k):=fun Z Z Z Z Z Z Z Z AK R x e=>by
 refine vN R e x fun l cl fs es n e el I F=>?_
 obtain⟨k1,e⟩:=Q1 e
 refine mS e fun w k2=>?_
 obtain⟨g1,g2,⟨attr,g3,g4⟩,g5⟩:=G.get _ _ k1
 obtain⟨z,L,hz⟩:=TC g5 F k2
 exact get_value (Ze G R) I g2 (findObj_own g1 g3 g4 L) (V3 hz) (.tok R hz)
end
end Mine.Tactic
end
namespace Mine.Tactic
def O3 (c:Cx)(d:Nat)(T:Value→Value→Value→Sem Value)(f:PV→PV→PV→H→R PV):Prop:=∀⦃A:Around⦄ ⦃s:Shared⦄ ⦃m:Mp⦄ ⦃σ σ':H⦄ ⦃p q r z:PV⦄ ⦃v u w:Value⦄,AOk d A→Rep c m σ s.heap→Val c m σ.length s.heap p v→Val c m σ.length s.heap q u→Val c m σ.length s.heap r w→f p q r σ=some (z,σ')→
 wpAny (model c.prog c.w) A (T v u w) (QF c m σ s z σ') (fun Z Z=>False) s
def OS2 (c:Cx)(d:Nat)(T:Value→Value→Sem Unit)(f:PV→PV→H→Option H):Prop:=∀⦃A:Around⦄ ⦃s:Shared⦄ ⦃m:Mp⦄ ⦃σ σ':H⦄ ⦃p q:PV⦄ ⦃v u:Value⦄,AOk d A→Rep c m σ s.heap→Val c m σ.length s.heap p v→Val c m σ.length s.heap q u→f p q σ=some σ'→
 wpAny (model c.prog c.w) A (T v u) (fun Z=>Yg c m σ s (fun Z Z Z=>True) W0 σ') (fun Z Z=>False) s
def OS3 (c:Cx)(d:Nat)(T:Value→Value→Value→Sem Unit)(f:PV→PV→PV→H→Option H):Prop:=∀⦃A:Around⦄ ⦃s:Shared⦄ ⦃m:Mp⦄ ⦃σ σ':H⦄ ⦃p q r:PV⦄ ⦃v u w:Value⦄,AOk d A→Rep c m σ s.heap→Val c m σ.length s.heap p v→Val c m σ.length s.heap q u→Val c m σ.length s.heap r w→f p q r σ=some σ'→
 wpAny (model c.prog c.w) A (T v u w) (fun Z=>Yg c m σ s (fun Z Z Z=>True) W0 σ') (fun Z Z=>False) s
section
variable {c:Cx} {C:CT} {d:Nat} {m:Mp} {σ:H} {s:Shared}
theorem N5 (R:Rep c m σ s.heap){l:Nat}{ps qs:List PV}{vs:List Value}{h':Heap}(e:σ[l]?=some (.lst ps))(hl:Zo h' (m.μ l) vs)(hs:Heap.SameBut (m.μ l) s.heap h')(hv:QD c m σ.length s.heap qs vs):Stp c W0 m σ s.heap m (σ.set l (.lst qs)) h':=
 .upd R (Qc e) hs _ fun ht=>⟨(R.lst e).1,vs,hl,hv.mono ht (Mp.Ext.refl _ _) (Nat.le_refl _)⟩
theorem Pc (R:Rep c m σ s.heap){l:Nat}{es fs:List (PV×PV)}{h':Heap}(e:σ[l]?=some (.dct es))(hs:Heap.SameBut (m.μ l) s.heap h')(D:YD s.heap h'→ZU c m σ.length h' (m.μ l) fs):Stp c W0 m σ s.heap m (σ.set l (.dct fs)) h':=
 .upd R (Qc e) hs _ fun ht=>⟨(R.obj l _ e).1,D ht⟩
theorem QF.upd {h':Heap}{σ':H}{t:Nat}{p:PV}{v:Value}(x:Stp c W0 m σ s.heap m σ' h')(y:Val c m σ'.length h' p v):QF c m σ s p σ' v {s with heap:=h',toks:=t}:=⟨m,h',t,rfl,x,y⟩
theorem QD.snoc {N:Nat}{h:Heap}{ps:List PV}{vs:List Value}{p:PV}{v:Value}(x:QD c m N h ps vs)(y:Val c m N h p v):QD c m N h (ps++[p]) (vs++[v]):=x.append (by exact⟨v,[],rfl,y,rfl⟩)
theorem Pr {N:Nat}{h:Heap}:Val c m N h .none .none:=rfl
theorem ZD {α:Type}{l:List α}(k:QG l=true):l.length≤sizeLine:=Nat.le_trans (Zw k) (Nat.le_trans (by decide) JQ)
theorem Go:O2 c d (fun o x=>call (.builtin "list.append") [o,x]) J8:=fun{A s m σ σ' p q r v u} AK R x y e=>by
 refine vL R e x fun l ps vs e el ho hv=>?_
 obtain⟨n,ho⟩:=ho
 obtain⟨k,e⟩:=Q1 e
 refine pS e ?_
 refine call_meets PySem.F.slot_list_append ⟨_,ho,rfl⟩ PySem.F.entry_list_append (PySem.F.args_list_append_2 _ _) (PySem.list_append _ vs.toArray n u (by simp only[List.size_toArray,hv.length];exact ZD k)) ⟨ho,?_⟩
 exact .upd (t:=s.toks) (N5 R el (Bn (vs:=vs++[u]) ho (fun xs=>xs.push u) (by simp)) (Heap.SameBut.update ..) (hv.snoc y)) Pr
theorem QD.dropLast {N:Nat}{h:Heap}{ps:List PV}{vs:List Value}(hv:QD c m N h ps vs):QD c m N h ps.dropLast vs.dropLast:=
 .of_get (by simp[hv.length]) fun i p v a b=>by
  rw[List.getElem?_dropLast]at a b
  split at a
  ·split at b
   ·obtain⟨v',h1,h2⟩:=hv.get a;simp only[h1]at b;cases b;exact h2
   ·cases b
  ·cases a
theorem Al:O1 c d (fun o=>call (.builtin "list.pop") [o]) RH:=fun{A s m σ σ' p q v} AK R x e=>by
 refine vL R e x fun l ps vs e el ho hv=>?_
 obtain⟨n,ho⟩:=ho
 refine q1 σ' ?_;intro Q;obtain⟨k,e⟩:=Q1 e
 obtain⟨w,hw,e⟩:=Option.map_eq_some_iff.mp e
 cases e
 have len:=hv.length
 rw[List.getLast?_eq_getElem?]at hw
 obtain⟨z,hz,hz'⟩:=hv.get hw
 have sz:vs.toArray.size=ps.length:=len
 refine call_meets PySem.F.slot_list_pop ⟨_,ho,rfl⟩ PySem.F.entry_list_pop (PySem.F.args_list_pop_1 _) (PySem.MeetsSeq.list_pop_last _ _ n z (by rw[sz,List.getElem?_toArray];exact hz) (by rw[sz];exact ZD k)) ⟨ho,?_⟩
 have S:=N5 R el (Bn (vs:=vs.dropLast) ho (fun xs=>xs.eraseIdxIfInBounds (vs.toArray.size - 1)) (by rw[List.size_toArray,List.eraseIdxIfInBounds_toArray,List.eraseIdx_length_sub_one])) (Heap.SameBut.update ..) hv.dropLast
 exact .upd (t:=s.toks) S (hz'.stp S (S.tup0 R))
theorem QD.set {N:Nat}{h:Heap}{ps:List PV}{vs:List Value}{p:PV}{v:Value}(x:QD c m N h ps vs)(y:Val c m N h p v)(i:Nat):QD c m N h (ps.set i p) (vs.set i v):=
 have len:=x.length
 .of_get (by simp[len]) fun j q u a b=>by
  rw[List.getElem?_set]at a b
  split at a
  ·rename_i q
   rw[if_pos q]at b
   split at a
   ·split at b
    ·cases a;cases b;exact y
    ·cases b
   ·cases a
  ·rename_i q
   rw[if_neg q]at b
   obtain⟨v',h1,h2⟩:=x.get a;rw[h1]at b;cases b;exact h2
theorem Ko:O2 c d (fun o x=>call (.builtin "list.extend") [o,x]) Iw:=fun{A s m σ σ' p q r v u} AK R x y e=>by
 refine vL R e x fun l ps vs e el1 ⟨n,ho⟩ hv=>vL R e y fun l2 qs ws e el2 ⟨n2,ho2⟩ hw=>?_
 obtain⟨k,e⟩:=Q1 e
 refine pS e ?_
 obtain⟨k1,k2⟩:=Bool.and_eq_true_iff.mp (Bool.and_eq_true_iff.mp k).2
 have k1:=Zw k1
 have k2:=Zw k2
 have len:=hv.length
 have len2:=hw.length
 have cap:=JQ
 refine call_meets PySem.F.slot_list_extend ⟨_,ho,rfl⟩ PySem.F.entry_list_extend (PySem.F.args_list_extend_2 _ _) (AutoSeq1.list_extend_list_list_0 _ vs.toArray n _ ws.toArray n2 (extend_door (by rw[List.size_toArray,List.size_toArray];exact o128 cap len k1 len2 k2)) (by rw[List.size_toArray];omega) (by rw[List.size_toArray,List.size_toArray];exact o129 cap len k1 len2 k2)) ⟨ho,ho2,?_⟩
 exact .upd (t:=s.toks) (N5 R el1 (Bn (vs:=vs++ws) ho (fun xs=>xs++ws.toArray) (by simp)) (Heap.SameBut.update ..) (hv.append hw)) Pr
theorem Em {m:Mp}{N:Nat}{h:Heap}{K:Type} [DecidableEq K]{kr:K→PV→Prop}{knd:KeyKind c.prog c.w K}(g:Mi c m N h K knd kr){kk:K}{k p:PV}{v:Value}(hk:kr kk k){es:List (PV×PV)}{kvs:List (K×Value)}{r:Option PV}(x:Prs c m N h K kr es kvs)(e:QP k es=some r)(y:Val c m N h p v):Val c m N h (r.getD p) ((valueAt kvs kk).getD v):=by
 have L:=Wc g hk x e
 clear e;cases r with
 |none=>rw[L];exact y
 |some q=>obtain⟨b,L,hb⟩:=L;rw[L];exact hb
theorem Ae (G:Kd c):O3 c d (fun o k x=>call (.builtin "dict.get") [o,k,x]) Av:=fun{A s m σ σ' p q r z v u w} AK R x y t e=>by
 refine vD R e x fun l es e el D=>?_
 refine q2 σ' z ?_;intro Q;obtain⟨k1,e⟩:=Q1 e
 obtain⟨b,k2,e⟩:=Option.map_eq_some_iff.mp e
 cases e
 exact D.kind k1 y k2 fun g kvs kk hd hp hr hi Z=>call_meetsIn PySem.F.slot_dict_get hd.typeIs PySem.F.entry_dict_get (PySem.F.args_dict_get_3 _ _ _) (meets_dict_get_default _ _ hi (G.sys (R.new _ (Qc el))) w) ⟨_,hd.mapOf,.tok R (Em g hr hp k2 t)⟩
theorem S9 (R:Rep c m σ s.heap){K:Type} [DecidableEq K]{kr:K→PV→Prop}{knd:KeyKind c.prog c.w K}(g:Mi c m σ.length s.heap K knd kr){kvs:List (K×Value)}{es:List (PV×PV)}{kk:K}{k p:PV}{v:Value}{r:Option PV}{a:Addr}{h':Heap}(hd:s.heap.DictOf knd a kvs)(hp:Prs c m σ.length s.heap K kr es kvs)(hk:kr kk k)(k2:QP k es=some r)(hv:Val c m σ.length s.heap p v)
  (ht:YD s.heap h'):Prs c m σ.length h' K kr (JG k p es) (stored kvs kk v):=by
 obtain⟨_,_,_,_,_,_,_,_,hn⟩:=id hd
 exact(Pm g hk hv hp k2 hn).mono ht (Mp.Ext.refl _ _) (Nat.le_refl _)
theorem LV (G:Kd c):O3 c d (fun o k x=>call (.builtin "dict.setdefault") [o,k,x]) HL:=fun{A s m σ σ' p q r z v u w} AK R x y t e=>by
 refine vD R e x fun l es e el D=>?_
 refine q2 σ' z ?_;intro Q;obtain⟨k,e⟩:=Q1 e
 obtain⟨k1,kz⟩:=Bool.and_eq_true_iff.mp k
 obtain⟨b,k2,e⟩:=Option.map_eq_some_iff.mp e
 cases e
 clear e;refine D.kind k1 y k2 fun g kvs kk hd hp hr hi F=>?_
 have L:=Wc g hr hp k2
 refine call_meetsIn PySem.F.slot_dict_setdefault hd.typeIs PySem.F.entry_dict_setdefault (PySem.F.args_dict_setdefault_3 _ _ _) (kt_meets_setdefault _ _ hi (G.sys (R.new _ (Qc el))) w) ⟨_,hd,by rw[hp.length];exact ZD kz,?_⟩
 cases b with
 |none=>
  refine⟨fun v' e'=>fo (L.symm.trans e'),fun Z h' hd' hsb=>?_⟩
  have S:=Pc R el hsb fun ht=>F _ hd' (S9 R g hd hp hr k2 t ht)
  exact .upd S (t.stp S (S.tup0 R))
 |some q=>
  obtain⟨b,L,hb⟩:=L
  exact⟨fun v' e'=>by refine q1 v' ?_;intro Q;cases L.symm.trans e';exact .tok R hb,fun e'=>os (L.symm.trans e')⟩
theorem Yg.upd {h':Heap}{σ':H}{t:Nat}(x:Stp c W0 m σ s.heap m σ' h'):Yg c m σ s (fun Z Z Z=>True) W0 σ' {s with heap:=h',toks:=t}:=⟨m,h',t,rfl,x,trivial⟩
theorem LO:OS3 c d setItem Be:=fun{A s m σ σ' p q r v u w} AK R x y t e=>by
 refine Yf e (fun e=>?_) fun e=>?_
 ·refine vL R e x fun l ps vs e el hl hv=>vI e y fun i tk e=>?_
  refine q1 σ' ?_;intro Q;obtain⟨k,e⟩:=Q1 e
  cases e
  obtain⟨k12,k3⟩:=Bool.and_eq_true_iff.mp k
  obtain⟨k1,k2⟩:=Bool.and_eq_true_iff.mp k12
  exact Gr hl (of_decide_eq_true k2) (Oo k1).2 (by rw[hv.length];exact Nat.le_of_ble_eq_true k3) fun h' hl' hs=>.upd (t:=s.toks) (N5 R el hl' hs (hv.set t _))
 ·refine vD R e x fun l es e el D=>?_
  refine q1 σ' ?_;intro Q;obtain⟨k,e⟩:=Q1 e
  obtain⟨k1,kz⟩:=Bool.and_eq_true_iff.mp k
  obtain⟨b,k2,e⟩:=Option.map_eq_some_iff.mp e
  cases e
  exact D.kind k1 y k2 fun g kvs kk hd hp hr hi F=>wpAny_setItem_pairs hi hd (fun h' hd' hsb=>.upd (Pc R el hsb fun ht=>F _ hd' (S9 R g hd hp hr k2 t ht))) (by rw[hp.length];exact ZD kz)
end
end Mine.Tactic
section
open Builtin Builtin.ObjectAttr
namespace Mine.Tactic
theorem LC {prog:Program}{w:World}{A:Around}{E:Value→Shared→Prop}{s:Shared}{K:Frag}{x C dx:Addr}{oda:Data}{osl:Array (Option Value)}{cd:ClassData}{name:Str}{tk:Tok}{v:Value}{b:Bool}{Q:Fin→Shared→Prop}
  (X:K.In s.heap) (hc:clsIn K C=some cd) (hd:cd.hasDict=true) (hx:s.heap.get? x=some ⟨.ref C,some dx,oda,osl⟩) (h:wpAny (model prog w) A (storeInDict dx (.str name tk) name v) Q E s):
  wpAny (model prog w) A (storeInOwnDict (.ref x) (.ref C) (.str name tk) name v b) Q E s:=by
 refine wpAny_bind (wpAny_pure (wpAny_bind (wpAny_bind (wpAny_loadPart hx (wpAny_bind ((looks_clsIn X hc).here ?_))))))
 rw[hd]
 exact wpAny_pure (a:=some dx) h
section
variable {c:Cx} {d:Nat} {m:Mp} {σ:H} {s:Shared}
theorem DO {N:Nat}{h:Heap}:∀{fs:List (Nat×PV)} {es:List DictEntry},ZE c m N h fs es→es.length=fs.length
 |[],es,x=>by cases x;rfl
 |_::fs,es,x=>by obtain⟨e,es',a,_,_,_,r⟩:=x;cases a;exact congrArg (·+1) (DO r)
theorem Pt (name:Str)(hsh:Int)(key v:Value):∀es:List DictEntry,(putL name hsh key v es).length≤es.length+1
 |[]=>by simp[putL]
 |e::r=>by
  have:=Pt name hsh key v r
  unfold putL
  split<;>simp<;>omega
theorem H3 {N:Nat}{h:Heap}{k:Nat}(hk:k<NA){p:PV}{v:Value}(hv:Val c m N h p v){hsh:Int}{t:Tok}:∀{fs:List (Nat×PV)} {es:List DictEntry},ZE c m N h fs es→ZE c m N h (Ba k p fs) (putL (Q6 k) hsh (.str (Q6 k) t) v es)
 |[],es,x=>by cases x;exact⟨_,[],rfl,⟨t,rfl⟩,hk,hv,rfl⟩
 |(j,q)::fs,es,x=>by
  obtain⟨e,es',rfl,⟨t',hx⟩,hj,hw,hr⟩:=x
  have ih:=H3 hk hv (hsh:=hsh) (t:=t) hr
  have ne:=FL hj hk hx
  rw[GK];unfold putL
  rw[ne]
  cases Nat.beq j k with
  |true=>exact⟨_,es',rfl,⟨t',hx⟩,hj,hv,hr⟩
  |false=>exact⟨e,_,rfl,⟨t',hx⟩,hj,hw,ih⟩
theorem B0 (G:Kd c)(k:Nat):OS2 c d (fun o v=>setAttr o (Q6 k) v) (fun o v h=>Ji o k v h):=fun{A s m σ σ' p q v u} AK R x y e=>by
 refine vN R e x fun l cl fs es n e el I F=>?_
 refine q1 σ' ?_;intro Q;obtain⟨kk,e⟩:=Q1 e
 cases e
 obtain⟨k1,k2⟩:=Bool.and_eq_true_iff.mp kk
 have k1:=Nat.le_of_ble_eq_true k1
 obtain⟨g1,g2,_,g5⟩:=G.get _ _ k2
 obtain⟨s1,s2,s3⟩:=G.set _ _ k2
 have len:=DO F
 have cc:(!es.toArray.any (·.key.isStr (Q6 k))&&es.toArray.any (·.refKey))=false:=by
  simp only[List.any_toArray,List.any_toArray,no_refs F,Bool.and_false]
 refine set_plain (Ze G R) I s1 (osa_open (s:={s with toks:=s.toks+1}) (Ze G R) I s2 s3 fun b=>?_)
 obtain⟨cd,hc,hd'⟩:=any_some g1
 have D:s.heap.get? (m.μ l)=some (dictOf es n):=I.dict
 have hx:s.heap.get? (m.φ l)=some (instObj (c.clsA cl) (m.μ l)):=I.at_
 have put:=putName_dict (Q6 k) (PyData.keyHash c.w.params (Q6 k)) (.str (Q6 k) (s.toks+1)) u es n
 have D':(s.heap.update (m.μ l) (Obj.putName (Q6 k) (PyData.keyHash c.w.params (Q6 k)) (.str (Q6 k) (s.toks+1)) u)).get? (m.μ l)=some (dictOf (putL (Q6 k) (PyData.keyHash c.w.params (Q6 k)) (.str (Q6 k) (s.toks+1)) u es) (putN (Q6 k) es n)):=by
  rw[←put]
  exact Heap.get?_update_self _ D (by rw[put];rfl)
 refine LC (s:={s with toks:=s.toks+1}) (Ze G R) hc hd' hx (wpAny_bind (wpAny_pure (wpAny_bind ?_)))
 unfold nsSet
 refine wpAny_bind (wpAny_bind (wpAny_askSetting (wpAny_pure (wpAny_bind (wpAny_mkText (wpAny_bind (wpAny_loadPart (s:={s with toks:=s.toks+1+1}) D ?_)))))))
 dsimp only
 rewrite [aRefKeyMayBeTheName_at,cc]
 refine wpAny_updatePart (s:={s with toks:=s.toks+1+1}) D ?_
 refine wpAny_bind (wpAny_lookBehind D' (pastItsLine_dict (by
  have:=Pt (Q6 k) (PyData.keyHash c.w.params (Q6 k)) (.str (Q6 k) (s.toks+1)) u es
  rw[List.size_toArray,sizeLine_eq];exact Nat.le_trans this (Nat.succ_le_succ (len▸Nat.le_trans k1 (by decide))))) ?_)
 exact wpAny_pure (.upd (.upd R (Qc el) (Heap.SameBut.update ..) _ fun ht=>⟨by
  have hne:=R.phi_ne (Qc el) (Qc el)
  have:m.φ l≠m.μ l:=fun z=>by simp only[z,D]at hx;cases hx
  exact(Heap.get?_update_ne _ _ _ _ this).trans hx,_,_,D',(H3 g5 y F).mono ht (Mp.Ext.refl _ _) (Nat.le_refl _)⟩))
theorem B8 {α:Type}{l:List α}(k:QG l=true):(l.length:Int)<2 ^ 63:=Int.lt_of_le_of_lt (Int.ofNat_le.mpr (Zw k)) (by decide)
theorem Ay (G:Kd c):O1 c d (fun o=>call (.builtin "len") [o]) (PX c.ns):=fun Z Z Z Z Z Z Z Z AK R x e=>by
 obtain⟨n,e1,e2⟩:=Option.map_eq_some_iff.mp e
 clear e;cases e2
 refine Yf e1 (fun e=>?_) fun e=>Yf e (fun e=>?_) fun e=>Yf e (fun e=>?_) fun e=>?_
 ·refine vT e x fun l a vs e ht hv=>?_
  refine q1 n ?_;intro Q;obtain⟨k,e⟩:=Q1 e
  have sz:vs.toArray.size=l.length:=hv.length
  cases e
  exact PyProof.Rows.len_tuple ht (by rw[sz];exact B8 k) (by rw[sz];exact .intT R)
 ·refine vL R e x fun l ps vs e el hl hv=>?_
  obtain⟨k,e⟩:=Q1 e
  have sz:vs.toArray.size=ps.length:=hv.length
  cases e
  exact call_len_list hl.is (by rw[sz];exact B8 k) (by rw[sz];exact .intT R)
 ·refine vD R e x fun l es e el D=>?_
  refine q1 n ?_;intro Q;obtain⟨k,e⟩:=Q1 e
  cases e
  exact D.el fun kvs hd hp=>call_len_dict (G.sys (R.new _ (Qc el))) hd (by rw[hp.length];exact B8 k) (by rw[hp.length];exact .intT R)
 ·obtain⟨vs,hl,hi,_⟩:=IU G R
  have sz:vs.toArray.size=c.ns.length:=hi.length
  split at e
  ·obtain rfl:=x
   cases e
   exact call_len_list hl (by rw[sz];exact G.scrN) (by rw[sz];exact .intT R)
  ·cases e
theorem GT {p:PV}{l:List PV}(e:Xz p σ=some l):∃k,p=.loc k∧σ[k]?=some (.lst l):=
 lstK_some e (G:=fun p=>∃k,p=.loc k∧σ[k]?=some (.lst l)) fun m l e1 e2=>by clear e;cases e2;exact⟨_,rfl,e1⟩
theorem O8 {N:Nat}{h:Heap}{l:List PV}{vs:List Value}(hv:QD c m N h l vs)(k:l.length≤10000):vs.toArray.size≤sizeLine:=by
 simp only[List.size_toArray,hv.length];exact Nat.le_trans k (Nat.le_trans (by decide) JQ)
theorem RX:O1 c d (fun o=>call (.type "list") [o]) UL:=fun{A s m σ σ' p q v} AK R x e=>by
 refine Yf e (fun e=>?_) fun e=>?_
 ·refine vT e x fun l a vs e ht hv=>?_
  refine q2 σ' q ?_;intro Q;obtain⟨k,rfl,rfl⟩:=Jt e
  obtain⟨o,ho,hc,n,hd⟩:=ht
  exact call_list_seq a (.inr rfl) ho hc hd (fun h' c' hk hn=>.newL (t:=s.toks) R hk (JL _) ⟨c',hn⟩ hv) (O8 hv k)
 ·refine vL R e x fun l ps vs e el ⟨n,ho⟩ hv=>?_
  refine q2 σ' q ?_;intro Q;obtain⟨k,rfl,rfl⟩:=Jt e
  exact call_list_seq _ (.inl rfl) ho rfl rfl (fun h' c' hk hn=>.newL (t:=s.toks) R hk (JL _) ⟨c',hn⟩ hv) (O8 hv k)
theorem SU:O1 c d (fun o=>call (.type "tuple") [o]) Db:=fun{A s m σ σ' p q v} AK R x e=>by
 refine Yf e (fun e=>?_) fun e=>?_
 ·refine vT e x fun l a vs e ht hv=>pS e ?_
  exact call_tuple_same ht (.here R ⟨a,vs,rfl,ht,hv⟩)
 ·refine vL R e x fun l ps vs e el hl hv=>?_
  clear el x;obtain⟨k,rfl,rfl⟩:=Mq e
  exact call_tuple_list hl.is (fun h' hk=>.newT (t:=s.toks) R (fun b o z=>Heap.get?_push_of_some _ (hk b o z)) (Gx _ _) hv) (O8 hv k)
theorem Pg:O1 c d (fun o=>call (.type "int") [o]) IB:=fun{A s m σ σ' p q v} AK R x e=>by
 refine Yf e (fun e=>?_) fun e=>?_
 ·refine vI e x fun i t e=>pS e ?_
  exact call_int_int (.here R ⟨t,rfl⟩)
 ·refine vB e x fun b e=>pS e ?_
  exact call_int_bool (.intT R)
theorem Xw:O2 c d (fun a b=>call (.builtin "max") [a,b]) ED:=fun{A s m σ σ' p q r v u} AK R x y e=>by
 refine vI e x fun a t e=>vI e y fun b t' e=>?_
 refine q2 σ' r ?_;intro Q;cases e
 refine max_two_ints AK.handled fun h' tk hk=>⟨m,h',tk,rfl,.grow R hk,?_⟩
 by_cases h:a<b
 ·exact⟨t',by rw[if_pos h,if_pos h]⟩
 ·exact⟨t,by rw[if_neg h,if_neg h]⟩
end
end Mine.Tactic
end
namespace Mine.Tactic
section
variable {c:Cx} {d:Nat} {m:Mp} {σ:H} {s:Shared}
theorem OC {N:Nat}{h:Heap}:∀{es:List (PV×PV)} {kvs:List (Int×Value)} {is:List Int},Prs c m N h Int krI es kvs→Wm es=some is→kvs.map (·.1)=is
 |[],kvs,is,x,e=>by cases x;cases e;rfl
 |(k,p)::es,kvs,is,x,e=>by
  obtain⟨k',v,kvs',rfl,a1,a2,a3⟩:=x
  obtain rfl:k=.int k':=a1
  obtain⟨is',e1,rfl⟩:=Option.map_eq_some_iff.mp e
  exact congrArg (k'::·) (OC a3 e1)
theorem Fe {es:List (PV×PV)}{is:List Int}{a:Addr}{N:Nat}{h:Heap}(D:ZU c m N h a es)(ei:Wm es=some is):∃kvs,h.DictOf (intKind c.prog c.w) a kvs∧kvs.map (·.1)=is:=by
 refine q1 is ?_;intro Q;cases D with
 |kInt kvs hd hp=>exact⟨kvs,hd,OC hp ei⟩
 |kStr kvs hd hp=>
  cases es with
  |nil=>obtain rfl:kvs=[]:=hp;cases ei;exact⟨[],ZK hd,rfl⟩
  |cons e0 es=>
   clear hd;refine q0 ?_;intro Q;obtain⟨k',v,kvs',rfl,⟨n,hn,a1,_⟩,a2,a3⟩:=hp
   have ei:ifI e0.1 _=some is:=ei
   rewrite [a1]at ei;exact fo ei
theorem Mb:∀{l:List Int} {a:Int},ris a l=true→(∀x∈l,a≤x)∧l.Pairwise (·≤·)
 |[],_,_=>⟨fun Z=>nm,.nil⟩
 |b::r,a,e=>by
  obtain⟨h1,h2⟩:=Bool.and_eq_true_iff.mp e
  have h1:=Int.le_of_lt (of_decide_eq_true h1)
  obtain⟨i1,i2⟩:=Mb h2
  exact⟨fun x hx=>(List.mem_cons.mp hx).elim (fun q=>q▸h1) fun hx=>Int.le_trans h1 (i1 x hx),.cons i1 i2⟩
theorem DJ {l:List Int}(e:Mr l=true):l.Pairwise (·≤·):=by
 cases l with
 |nil=>exact .nil
 |cons a l=>exact .cons (Mb e).1 (Mb e).2
theorem D8 {ns:List Int}{vs:List Value}(hl:vs.length=ns.length)(h:∀(i:Nat) (v:Value),vs[i]?=some v→∃(k:Int) (t:Tok),ns[i]?=some k∧v=Value.int k t):IntsAre vs ns:=by
 induction vs generalizing ns with
 |nil=>clear h;cases ns with
  |nil=>exact .nil
  |cons _ _=>simp at hl
 |cons v vs ih=>
  cases ns with
  |nil=>simp at hl
  |cons n ns=>
   obtain⟨k,t,h1,rfl⟩:=h 0 v rfl
   simp at h1
   subst h1
   exact .cons _ t (ih (by simpa using hl) fun i v e=>by
    have:=h (i+1) v (by exact e)
    simpa using this)
theorem PR {N:Nat}{h:Heap}{vs:List Value}{ns:List Int}(x:IntsAre vs ns):QD c m N h (ns.map .int) vs:=by
 induction x with
 |nil=>rfl
 |cons n t _ ih=>exact⟨_,_,rfl,by exact⟨t,rfl⟩,ih⟩
theorem OW {h h':Heap}(hk:∀b o,h.get? b=some o→h'.get? b=some o):h.get? h'.objs.size=none:=by
 cases e:h.get? h'.objs.size with
 |none=>rfl
 |some o=>exact absurd (Heap.lt_size (hk _ _ e)) (Nat.lt_irrefl _)
theorem KJ (G:Kd c):O1 c d (fun o=>call (.builtin "sorted") [o]) Im:=fun{A s m σ σ' p q v} AK R x e=>by
 refine vD R e x fun l es e el D=>?_
 refine q2 σ' q ?_;intro Q;obtain⟨is,ei,e⟩:=Option.bind_eq_some_iff.mp e
 obtain⟨rr,e⟩:=Q1 e
 obtain⟨r1,r2⟩:=Bool.and_eq_true_iff.mp rr
 clear rr;have r2:=Nat.le_of_ble_eq_true r2
 obtain⟨_,rfl,rfl⟩:=Jt e
 clear e;have hs:=G.sys (R.new _ (Qc el))
 obtain⟨kvs,hd,hk⟩:=Fe D ei
 clear ei;obtain⟨ep,hat⟩:=hd.dictAt
 have hlen:kvs.length=is.length:=by rw[←hk,List.length_map]
 refine call_function_entry kind_sorted plain_sorted entry_sorted (args_sorted1 _) ?_
 unfold Builtin.«sorted»
 refine wpAny_bind (m:=checkCount "sorted" 1 1 _) (wpAny_pure ?_)
 refine wpAny_bind (kdu_collect (A:=A.in1) (kdl_dict (knd:=intKind c.prog c.w) (kvs:=kvs) (ep:=ep) hs) AK.handled hat (hlen▸Nat.le_trans (Nat.le_of_lt r2) (Nat.le_trans (by decide) JQ)) fun h' tk acc hkp hacc=>?_)
 have hI:IntsAre acc.toList is:=D8 (by simp only[Array.length_toList,hacc.1,hlen]) fun i v e=>by
  obtain⟨k,y,hx,hkv⟩:=hacc.2 i v (by rw[←Array.getElem?_toList];exact e)
  obtain⟨t,rfl⟩:=Value.isInt_shape hkv
  exact⟨k,t,by rw[←hk,List.getElem?_map,hx];rfl,rfl⟩
 clear hk;have hal:acc.toList.length=is.length:=hI.length
 refine wpAny_bind (wpAny_newList ?_ (hal▸Nat.le_trans (Nat.le_of_lt r2) (Nat.le_trans (by decide) JQ)))
 clear hlen;have hoL:(h'.push {cls:=.type "list",data:=.seq acc.toList.toArray}).get? h'.objs.size=some (seqObj "list" acc.toList.toArray 0):=Heap.get?_push_size _ rfl
 refine wpAny_bind (wpAny_holding (wpAny_call_entry slot_list_sort ⟨_,hoL,rfl⟩ entry_list_sort (list_sort_tree hoL hI (by omega) fun out ns' a1 a2 a3=>⟨_,rfl,?_⟩) (args_list_sort _)))
 clear hal hI r2;have en:ns'=is:=List.Perm.eq_of_pairwise (fun x y Z Z h1 h2=>Int.le_antisymm h1 h2) a3 (DJ r1) a2
 clear a2 r1;subst en
 obtain⟨e2,he2⟩:=sortedHeap_at (out:=out) hoL
 refine wpAny_pure ⟨_,rfl,.newL (vs:=out.toList) R (fun b o z=>?_) (OW hkp) ⟨e2,by exact he2⟩ (PR a1)⟩
 have z':=hkp b o z
 have lt:=Heap.lt_size z'
 rw[sortedHeap_old (Nat.ne_of_lt lt) (by simp only[Heap.size_push];exact Nat.lt_succ_of_lt lt)]
 exact Heap.get?_push_of_some _ z'
end
theorem Id:typeLookup (.type "list") (ofString "keys")=pure none:=am_miss_of_fast (by kernel_rfl)
theorem IN {prog:Program}{w:World}{A:Around}{E:Value→Shared→Prop}{s:Shared}{a:Addr}{xs:Array Value}{k:Nat}{Q:Option Value→Shared→Prop}
  (hx:s.heap.get? a=some {cls:=.type "list",dict:=none,data:=.seq xs k,slots:=#[]}) (hA:A.handled=none)
  (h:∀h' tk,(∀b o,s.heap.get? b=some o→h'.get? b=some o)→Q none {s with heap:=h',toks:=tk}):
  wpAny (model prog w) A (getAttr? (.ref a) "keys") Q E s:=by
 obtain⟨hp,g,d,tk,os⟩:=s
 have hT:∀tk',(⟨hp,g,d,tk',os⟩:Shared).TypeIs (.ref a) "list":=fun Z=>⟨_,hx,rfl⟩
 have f1:=sub_AttributeError
 have f3:=F.slot_list_getattribute.lookup
 have f4:=F.slot_list_getattribute.bind (.ref a)
 have f5:=am_list_getattr_none
 delta getAttr? getAttrBy? getAttrBy
 refine wpAny_bind (wpAny_mkText (wpAny_bind (wpAny_attempt (wpAny_holding ?_))))
 refine wpAny_bind (wpAny_typeOf (hT _) (wpAny_bind (wpAny_of_eq f3 ?_)))
 show wpAny _ _ (getAttrByItsOwn _ _ _ _ _ _) _ _ _
 unfold getAttrByItsOwn
 refine wpAny_bind (m:=hookBefore _) (wpAny_pure (wpAny_bind (wpAny_attempt (wpAny_holding ?_))))
 show wpAny _ _ (boundAndCalled _ _ _) _ _ _
 unfold boundAndCalled
 simp only[f4]
 refine wpAny_bind (wpAny_pure ?_)
 refine call_meets F.slot_list_getattribute (hT _) am_entry_list_getattribute (F.args_list_getattribute_2 _ _) (meets_getattribute_miss_list a xs k #[] "keys" _ Id (by decide+kernel) (by decide+kernel)) ⟨hx,hA,fun h' tk' e hx'=>?_⟩
 obtain⟨t',u',he⟩:=hx'.there
 show wpAny _ _ (getattributeRaised _ _ _ _ _ _ _) _ _ _
 unfold getattributeRaised
 have hE:(⟨h',g,d,tk',os⟩:Shared).TypeIs (.ref e) "AttributeError":=⟨_,he,rfl⟩
 refine wpAny_bind (wpAny_isInstance hE sub_AttributeError ?_)
 simp only[if_true]
 refine wpAny_bind ?_
 show wpAny _ _ (typeLookup (.type "list") "__getattr__") _ _ _
 rw[f5]
 refine wpAny_pure ?_
 delta hookOrError attributeErrorLeaves
 simp only[Bool.not_false,if_true]
 refine wpAny_throw ?_
 show wpAny _ _ (isInstance (.ref e) (.type "AttributeError")>>= _) _ _ _
 refine wpAny_bind (wpAny_isInstance hE sub_AttributeError ?_)
 simp only[if_true]
 exact wpAny_pure (h h' tk' hx'.keeps)
end Mine.Tactic
namespace Mine.Tactic
theorem Up:entryFor table "dict.update.loop"=some Builtin.«dict.update.loop»:=entryFor_of_tree (by kernel_rfl)
theorem Um:plainId "dict.update.loop"=true:=by decide+kernel
theorem D1 {prog:Program}{w:World}{A:Around}{E:Value→Shared→Prop}{s:Shared}{l:Addr}{Q:Value→Shared→Prop}(hA:A.handled=none)(hl:Zo s.heap l [])
  (h:∀h' tk,(∀b o,s.heap.get? b=some o→h'.get? b=some o)→h'.get? s.heap.objs.size=some {cls:=.type "dict",data:=.dict #[]}→Q (.ref s.heap.objs.size) {s with heap:=h',toks:=tk}):
  wpAny (model prog w) A (call (.type "dict") [.ref l]) Q E s:=by
 obtain⟨n,ho⟩:=hl
 refine callType_codes (Q₁:=fun obj s₁=>obj=.ref s.heap.objs.size∧s₁={s with heap:=s.heap.push {cls:=.type "dict",data:=.dict #[]}}) PySem.F.kt_called_dict (PySem.F.kt_typeCall_dict_1 _) PySem.F.entry_dict_init (kt_code_dict_new _ ⟨rfl,rfl⟩) ?_
 rintro obj s₁ ⟨rfl,rfl⟩
 have hnew:(s.heap.push {cls:=.type "dict",data:=.dict #[]}).DictOf (intKind prog w) s.heap.objs.size []:=Heap.DictOf.new s.heap
 have hn0:(s.heap.push {cls:=.type "dict",data:=.dict #[]}).get? s.heap.objs.size=some {cls:=.type "dict",data:=.dict #[]}:=Heap.get?_push_size _ rfl
 have ho':(s.heap.push {cls:=.type "dict",data:=.dict #[]}).get? l=some {cls:=.type "list",dict:=none,data:=.seq ([]:List Value).toArray n,slots:=#[]}:=Heap.get?_push_of_some _ ho
 refine⟨hnew.typeIs,PySem.F.args_dict_init_2 _ _,?_⟩
 unfold Builtin.«dict.__init__»
 refine wpAny_bind ?_
 unfold Builtin.Dict.selfAndRest
 refine wpAny_bind (wpAny_notOrdered_dict hnew.typeIs ?_)
 show wpAny _ _ (pure (s.heap.objs.size,[Value.ref l])) _ _ _
 refine wpAny_pure ?_
 show wpAny _ _ (Builtin.Dict.updateFrom "dict.__init__" s.heap.objs.size (.ref l) [] .none) _ _ _
 unfold Builtin.Dict.updateFrom
 refine wpAny_bind (wpAny_typeOf (T:="list") ⟨_,ho',rfl⟩ ?_)
 rw[if_pos (by decide)]
 refine wpAny_bind (IN (s:={s with heap:=s.heap.push {cls:=.type "dict",data:=.dict #[]}}) ho' hA fun h2 tk hk=>?_)
 rw[if_pos (by rfl)]
 have l2:h2.IsList l #[]:=⟨_,hk _ _ ho',rfl,n,rfl⟩
 refine wpAny_bind (wpAny_rule (wpAny_bind (wpAny_pyIter_list (s:={s with heap:=h2,toks:=tk}) l2 ?_)))
 have hit:(h2.push {cls:=.type "list_iterator",data:=.fields #[.ref l,.int 0 0]}).IsListIter h2.objs.size l 0:=⟨_,Heap.get?_push_size _ rfl,rfl,rfl⟩
 refine wpAny_pure ⟨plainId_quiet Um _,codeAny_builtin Up ?_⟩
 show wpAny _ _ (pyNext (.ref h2.objs.size)>>= _) _ _ _
 refine wpAny_bind (wpAny_pyNext_list_end hA hit (l2.push _) rfl fun h3 hx=>?_)
 show wpAny _ _ (Builtin.Dict.addKeywords s.heap.objs.size []>>= _) _ _ _
 refine wpAny_bind (wpAny_pure (wpAny_pure ⟨rfl,h h3 tk (fun b o e=>?_) ?_⟩))
 ·have z:=hk _ _ (Heap.get?_push_of_some {cls:=.type "dict",data:=.dict #[]} e)
  exact hx _ _ (Nat.ne_of_lt (Heap.lt_size z)) (Heap.get?_push_of_some _ z)
 ·have z:=hk _ _ hn0
  exact hx _ _ (Nat.ne_of_lt (Heap.lt_size z)) (Heap.get?_push_of_some _ z)
end Mine.Tactic
namespace Mine.Tactic
set_option genSizeOf false in
set_option genInjectivity false in
inductive N1
 |name (x:Str) (p:Pos)|tup (es:List PySem.Expr) (k:Nat) (p:Pos)|att (v:PySem.Expr) (x:Str) (p:Pos)|sub (v s:PySem.Expr) (p:Pos)|call (f:PySem.Expr) (as:List PySem.Expr) (ks:List Keyword) (p:Pos)
 |lc (e:PySem.Expr) (gs:List Comprehension) (s:Scope) (p:Pos)|con (v:Const) (k:Nat) (p:Pos)|lst (es:List PySem.Expr) (p:Pos)|dct (ks:List (Option PySem.Expr)) (vs:List PySem.Expr) (p:Pos)
 |bop (op:BoolOp) (es:List PySem.Expr) (p:Pos)|uop (op:UnaryOp) (x:PySem.Expr) (p:Pos)|bin (l:PySem.Expr) (op:Operator) (r:PySem.Expr) (p:Pos)|cpr (l:PySem.Expr) (ops:List CmpOp) (rs:List PySem.Expr) (p:Pos)
 |ife (t a b:PySem.Expr) (p:Pos)|oth
def vx:PySem.Expr→N1
 |.Name x p=>.name x p
 |.Tuple es k p=>.tup es k p
 |.Attribute v x p=>.att v x p
 |.Subscript v s p=>.sub v s p
 |.Call f as ks p=>.call f as ks p
 |.ListComp e gs s p=>.lc e gs s p
 |.Constant v k p=>.con v k p
 |.List es p=>.lst es p
 |.Dict ks vs p=>.dct ks vs p
 |.BoolOp op es p=>.bop op es p
 |.UnaryOp op x p=>.uop op x p
 |.BinOp l op r p=>.bin l op r p
 |.Compare l ops rs p=>.cpr l ops rs p
 |.IfExp t a b p=>.ife t a b p
 |_=>.oth
def inv (e:PySem.Expr):N1→PySem.Expr
 |.name x p=>.Name x p
 |.tup es k p=>.Tuple es k p
 |.att v x p=>.Attribute v x p
 |.sub v s p=>.Subscript v s p
 |.call f as ks p=>.Call f as ks p
 |.lc e gs s p=>.ListComp e gs s p
 |.con v k p=>.Constant v k p
 |.lst es p=>.List es p
 |.dct ks vs p=>.Dict ks vs p
 |.bop op es p=>.BoolOp op es p
 |.uop op x p=>.UnaryOp op x p
 |.bin l op r p=>.BinOp l op r p
 |.cpr l ops rs p=>.Compare l ops rs p
 |.ife t a b p=>.IfExp t a b p
 |.oth=>e
theorem Eo (e:PySem.Expr):inv e (vx e)=e:=by cases e<;>rfl
theorem Jn {Q:N1→PySem.Expr→Prop}{e:PySem.Expr}(k:∀n,Q n (inv e n)):Q (vx e) e:=Eq.rec (motive:=fun x _=>Q (vx e) x) (k (vx e)) (Eo e)
def nm1 (e:PySem.Expr):Option Str:=match vx e with
 |.name x _=>some x
 |_=>none
theorem K9 {P:PySem.Expr→Prop}{e:PySem.Expr}{x:Str}(h:nm1 e=some x)(k:∀p,P (.Name x p)):P e:=
 Jn (Q:=fun n e=>(match n with|.name x _=>some x|_=>none)=some x→P e) (fun n h=>by
  cases n with
  |name y p=>cases h;exact k p
  |_=>exact fo h) h
def Aft (c:Cx)(W:Addr→Prop)(m:Mp)(σ:H)(s:Shared)(m':Mp)(σ':H)(s':Shared):Prop:=∃h' t,s'={s with heap:=h',toks:=t}∧Stp c W m σ s.heap m' σ' h'
section
variable {c:Cx} {C:CT} {d:Nat} {sc:Scope} {V:Vw} {m m₁ m₂:Mp} {σ σ₁ σ₂:H} {s s₁ s₂:Shared} {W:Addr→Prop} {env:Env} {ρ:Lc} {A:Around}
theorem Aft.refl (R:Rep c m σ s.heap):Aft c W m σ s m σ s:=⟨s.heap,s.toks,rfl,.refl R⟩
theorem Aft.trans (x:Aft c W m σ s m₁ σ₁ s₁)(y:Aft c W m₁ σ₁ s₁ m₂ σ₂ s₂):Aft c W m σ s m₂ σ₂ s₂:=by
 obtain⟨h,t,rfl,a⟩:=x
 obtain⟨h',t',rfl,b⟩:=y
 exact⟨h',t',rfl,a.trans b⟩
theorem Aft.rep (x:Aft c W m σ s m₁ σ₁ s₁):Rep c m₁ σ₁ s₁.heap:=by obtain⟨h,t,rfl,a⟩:=x;exact a.rep
theorem Aft.stp (x:Aft c W m σ s m₁ σ₁ s₁):Stp c W m σ s.heap m₁ σ₁ s₁.heap:=by obtain⟨h,t,rfl,a⟩:=x;exact a
theorem Aft.weak {W':Addr→Prop}(x:Aft c W m σ s m₁ σ₁ s₁)(w:∀b,W b→W' b):Aft c W' m σ s m₁ σ₁ s₁:=by obtain⟨h,t,rfl,a⟩:=x;exact⟨h,t,rfl,a.weak w⟩
theorem Aft.val (x:Aft c W0 m σ s m₁ σ₁ s₁)(R:Rep c m σ s.heap){p:PV}{v:Value}(y:Val c m σ.length s.heap p v):Val c m₁ σ₁.length s₁.heap p v:=y.stp x.stp (x.stp.tup0 R)
theorem Aft.vals (x:Aft c W0 m σ s m₁ σ₁ s₁)(R:Rep c m σ s.heap){p:List PV}{v:List Value}(y:QD c m σ.length s.heap p v):QD c m₁ σ₁.length s₁.heap p v:=y.stp x.stp (x.stp.tup0 R)
theorem Aft.frm (x:Aft c W0 m σ s m₁ σ₁ s₁)(R:Rep c m σ s.heap)(F:Frm c m σ s.heap V env ρ):Frm c m₁ σ₁ s₁.heap V env ρ:=F.stp R x.stp
theorem QF.aft {p:PV}{v:Value}(e:QF c m σ s p σ₁ v s₁):∃m₁,Aft c W0 m σ s m₁ σ₁ s₁∧Val c m₁ σ₁.length s₁.heap p v:=by
 obtain⟨m',h',t,rfl,st,y⟩:=e
 exact⟨m',⟨h',t,rfl,st⟩,y⟩
theorem QF.of {p:PV}{v:Value}(x:Aft c W0 m σ s m₁ σ₁ s₁)(y:QF c m₁ σ₁ s₁ p σ₂ v s₂):QF c m σ s p σ₂ v s₂:=by
 obtain⟨h,t,rfl,a⟩:=x
 exact y.after a
theorem Yg.aft {P:Mp→H→Heap→Prop}(e:Yg c m σ s P W σ₁ s₁):∃m₁,Aft c W m σ s m₁ σ₁ s₁∧P m₁ σ₁ s₁.heap:=by
 obtain⟨m',h',t,rfl,st,y⟩:=e
 exact⟨m',⟨h',t,rfl,st⟩,y⟩
theorem Yg.of {P:Mp→H→Heap→Prop}(x:Aft c W m σ s m₁ σ₁ s₁)(y:Yg c m₁ σ₁ s₁ P W σ₂ s₂):Yg c m σ s P W σ₂ s₂:=by
 obtain⟨h,t,rfl,a⟩:=x
 obtain⟨m',h',t',rfl,st,y⟩:=y
 exact⟨m',h',t',rfl,a.trans st,y⟩
theorem Yg.at {P:Mp→H→Heap→Prop}(x:Aft c W m σ s m₁ σ₁ s₁)(y:P m₁ σ₁ s₁.heap):Yg c m σ s P W σ₁ s₁:=by
 obtain⟨h,t,rfl,a⟩:=x
 exact⟨m₁,h,t,rfl,a,y⟩
def Upd (s s':Shared):Prop:=∃h t,s'={s with heap:=h,toks:=t}
theorem Upd.trans (x:Upd s s₁)(y:Upd s₁ s₂):Upd s s₂:=by
 obtain⟨_,_,rfl⟩:=x
 obtain⟨_,_,rfl⟩:=y
 exact⟨_,_,rfl⟩
theorem Aft.upd (x:Aft c W m σ s m₁ σ₁ s₁):Upd s s₁:=by obtain⟨h,t,e,_⟩:=x;exact⟨h,t,e⟩
theorem Upd.at {P:Mp→H→Heap→Prop}(u:Upd s s₁)(S:Stp c W m σ s.heap m₁ σ₁ s₁.heap)(y:P m₁ σ₁ s₁.heap):Yg c m σ s P W σ₁ s₁:=by
 obtain⟨h,t,rfl⟩:=u
 exact⟨m₁,h,t,Eq.refl _,S,y⟩
theorem Upd.aft (u:Upd s s₁)(S:Stp c W m σ s.heap m₁ σ₁ s₁.heap):Aft c W m σ s m₁ σ₁ s₁:=by
 obtain⟨h,t,rfl⟩:=u
 exact⟨h,t,Eq.refl _,S⟩
theorem HK {α:Type}{M:Model}{t:Sem α}{P:α→Shared→Prop}{E:Value→Shared→Prop}(h:∀Q:α→Shared→Prop,(∀a s,P a s→Q a s)→wpAny M A t Q E s):wpAny M A t P E s:=h P fun Z Z x=>x
theorem Qy {α:Type}{M:Model}{t:Sem α}{Q Q':α→Shared→Prop}{E:Value→Shared→Prop}(h:wpAny M A t Q (fun Z Z=>False) s)(k:∀a s',Q a s'→Q' a s'):wpAny M A t Q' E s:=wpAny_mono h k fun Z Z f=>f.elim
theorem Snd.one {e:PySem.Expr}{f:EX}(S:Snd c C d sc V e f)(O:Ym c sc V env)(AK:AOk d A)(R:Rep c m σ s.heap)(F:Frm c m σ s.heap V env ρ){p:PV}(h:f C c.ns ρ σ=some (p,σ₁)){Q:Value→Shared→Prop}{E:Value→Shared→Prop}
  (k:∀m₁ v s₁,Aft c W0 m σ s m₁ σ₁ s₁→Val c m₁ σ₁.length s₁.heap p v→Q v s₁):wpAny (model c.prog c.w) A (eval e env) Q E s:=
 Qy (S O AK R F h) fun v s₁ x=>by obtain⟨m₁,a,y⟩:=x.aft;exact k m₁ v s₁ a y
theorem JP {f:PV→H→R PV}{a:EX}{p:PV}(h:op1 f a C c.ns ρ σ=some (p,σ₂)):∃q σ₁,a C c.ns ρ σ=some (q,σ₁)∧f q σ₁=some (p,σ₂):=Qh h
theorem Un {f:PV→PV→H→R PV}{a b:EX}{p:PV}(h:op2 f a b C c.ns ρ σ=some (p,σ₂)):∃q σ₁ r σ',a C c.ns ρ σ=some (q,σ₁)∧b C c.ns ρ σ₁=some (r,σ')∧f q r σ'=some (p,σ₂):=by
 obtain⟨q,σ₁,e1,h⟩:=Qh h
 obtain⟨r,σ',e2,h⟩:=Qh h
 exact⟨q,σ₁,r,σ',e1,e2,h⟩
theorem Snd.two {ea eb:PySem.Expr}{fa fb:EX}{T:Value→Value→Sem Value}{f:PV→PV→H→R PV}(Sa:Snd c C d sc V ea fa)(Sb:Snd c C d sc V eb fb)(o:O2 c d T f)(O:Ym c sc V env)(AK:AOk d A)(R:Rep c m σ s.heap)(F:Frm c m σ s.heap V env ρ){p:PV}(h:op2 f fa fb C c.ns ρ σ=some (p,σ₁)):
  wpAny (model c.prog c.w) A (eval ea env) (fun a s₁=>wpAny (model c.prog c.w) A (eval eb env) (fun b s₂=>wpAny (model c.prog c.w) A (T a b) (QF c m σ s p σ₁) (fun Z Z=>False) s₂) (fun Z Z=>False) s₁) (fun Z Z=>False) s:=by
 obtain⟨q,σ₁,r,σ₂,e1,e2,e3⟩:=Un h
 refine Sa.one O AK R F e1 fun m₁ v s₁ x1 y1=>Sb.one O AK x1.rep (x1.frm R F) e2 fun m₂ u s₂ x2 y2=>?_
 exact Qy (o AK x2.rep (x2.val x1.rep y1) y2 e3) fun Z Z y=>.of (x1.trans x2) y
theorem Nu {op:UnaryOp}{x:PySem.Expr}{pos:Pos}{f:PV→H→R PV}{a:EX}(o:O1 c d (unaryOp op) f)(Sa:Snd c C d sc V x a):Snd c C d sc V (.UnaryOp op x pos) (op1 f a):=fun Z Z Z Z Z Z Z Z O AK R F h=>by
 obtain⟨q,σ₁,e1,e2⟩:=JP h
 exact UnaryOp_ (Sa.one O AK R F e1 fun m₁ v s₁ x1 y1=>Qy (o AK x1.rep y1 e2) fun Z Z y=>.of x1 y)
theorem Jc {op:Operator}{l r:PySem.Expr}{pos:Pos}{f:PV→PV→H→R PV}{a b:EX}(o:O2 c d (binaryOp op) f)(Sa:Snd c C d sc V l a)(Sb:Snd c C d sc V r b):Snd c C d sc V (.BinOp l op r pos) (op2 f a b):=fun Z Z Z Z Z Z Z Z O AK R F h=>
 wpAny_BinOp (Sa.two Sb o O AK R F h)
theorem Jv {op:CmpOp}{l r:PySem.Expr}{pos:Pos}{f:PV→PV→H→R PV}{a b:EX}(o:O2 c d (compareOp op) f)(Sa:Snd c C d sc V l a)(Sb:Snd c C d sc V r b)(hm:behindInMarks op r=false):Snd c C d sc V (.Compare l [op] [r] pos) (op2 f a b):=fun Z Z Z Z Z Z Z Z O AK R F h=>
 wpAny_Compare1 (Sa.two Sb o O AK R F h) hm
theorem N6 {value slice:PySem.Expr}{pos:Pos}{a b:EX}(hs:∀o i,subscripted slice false o i=operate [o,i] (getItem o i))(Sa:Snd c C d sc V value a)(Sb:Snd c C d sc V slice b):Snd c C d sc V (.Subscript value slice pos) (Qi a b):=fun Z Z Z Z Z Z Z Z O AK R F h=>
 Subscript_ (Sa.two Sb (Qac hs) O AK R F h)
theorem KB {value:PySem.Expr}{k:Nat}{x:Str}{pos:Pos}{a:EX}(G:Kd c)(hx:x=Q6 k)(Sa:Snd c C d sc V value a)
  (he:∀env,eval (.Attribute value x pos) env=(do
   let o ←eval value env
   standAt pos.atName
   let r ←holding [o] (getAttr o x true)
   letTemporaryGo value o r
   pure r)):Snd c C d sc V (.Attribute value x pos) (Qk a k):=fun Z Z Z Z Z Z Z Z O AK R F h=>by
 subst hx
 obtain⟨q,σ₁,e1,e2⟩:=JP h
 exact Attribute_any_ (Sa.one O AK R F e1 fun m₁ v s₁ x1 y1=>Qy (XH G k AK x1.rep y1 e2) fun Z Z y=>.of x1 y) (he _)
theorem Jy.one {e:PySem.Expr}{f:TX}(S:Jy c C d sc V e f)(O:Ym c sc V env)(AK:AOk d A)(R:Rep c m σ s.heap)(F:Frm c m σ s.heap V env ρ){b:Bool}(h:f C c.ns ρ σ=some (b,σ₁)){Q:Bool→Shared→Prop}{E:Value→Shared→Prop}
  (k:∀m₁ s₁,Aft c W0 m σ s m₁ σ₁ s₁→Q b s₁):wpAny (model c.prog c.w) A (isTrue e env (eval e env)) Q E s:=
 Qy (S O AK R F h) fun v s₁ x=>by obtain⟨m₁,a,_⟩:=x.2.aft;exact x.1▸k m₁ s₁ a
theorem UC {t a b:PySem.Expr}{pos:Pos}{ft:TX}{fa fb:EX}(St:Jy c C d sc V t ft)(Sa:Snd c C d sc V a fa)(Sb:Snd c C d sc V b fb):Snd c C d sc V (.IfExp t a b pos) (eIf ft fa fb):=fun Z Z Z Z Z Z Z Z O AK R F h=>by
 obtain⟨q,σ₁,e1,e2⟩:=Qh h
 refine IfExp_ (St.one O AK R F e1 fun m₁ s₁ x1=>?_)
 clear e1;cases q with
 |true=>exact Qy (Sa O AK x1.rep (x1.frm R F) e2) fun Z Z y=>.of x1 y
 |false=>exact Qy (Sb O AK x1.rep (x1.frm R F) e2) fun Z Z y=>.of x1 y
theorem WC {N:Nat}{h:Heap}{b:Bool}{v:Value}(x:Val c m N h (.bool b) v):v=.bool b:=x
inductive JJ (c:Cx) (C:CT) (d:Nat) (sc:Scope) (V:Vw):List PySem.Expr→List EX→Prop
 |nil:JJ c C d sc V [] []
 |cons {e f es fs}:Snd c C d sc V e f→JJ c C d sc V es fs→JJ c C d sc V (e::es) (f::fs)
theorem Ri {es:List PySem.Expr}{fs:List EX}{pos:Pos}(L:JJ c C d sc V es fs):Snd c C d sc V (.BoolOp .And es pos) (WQ fs):=by
 induction L with
 |nil=>exact fun Z Z Z Z Z Z Z Z Z Z Z Z=>fo
 |cons S L ih=>
  intro A s env m σ σ' ρ p O AK R F h
  cases L with
  |nil=>exact BoolOp_one (S O AK R F h)
  |cons S' L=>
   obtain⟨q,σ₁,e1,h⟩:=Qh h
   refine BoolOp_and (S.one O AK R F e1 fun m₁ v s₁ x1 y1=>?_)
   clear e1;obtain⟨b,rfl,h⟩:=GY h
   obtain rfl:=WC y1
   refine wpAny_truthy_bool ?_
   cases b with
   |true=>exact Qy (ih O AK x1.rep (x1.frm R F) h) fun Z Z y=>.of x1 y
   |false=>cases h;exact .of x1 (.here x1.rep y1)
theorem XW {es:List PySem.Expr}{fs:List EX}{pos:Pos}(L:JJ c C d sc V es fs):Snd c C d sc V (.BoolOp .Or es pos) (eOr fs):=by
 induction L with
 |nil=>exact fun Z Z Z Z Z Z Z Z Z Z Z Z=>fo
 |cons S L ih=>
  intro A s env m σ σ' ρ p O AK R F h
  cases L with
  |nil=>exact BoolOp_one (S O AK R F h)
  |cons S' L=>
   obtain⟨q,σ₁,e1,h⟩:=Qh h
   refine BoolOp_or (S.one O AK R F e1 fun m₁ v s₁ x1 y1=>?_)
   clear e1;obtain⟨b,rfl,h⟩:=GY h
   obtain rfl:=WC y1
   refine wpAny_truthy_bool ?_
   cases b with
   |false=>exact Qy (ih O AK x1.rep (x1.frm R F) h) fun Z Z y=>.of x1 y
   |true=>cases h;exact .of x1 (.here x1.rep y1)
theorem Ir {a:EX}{b:Bool}(h:tE a C c.ns ρ σ=some (b,σ₁)):a C c.ns ρ σ=some (.bool b,σ₁):=by
 obtain⟨q,σ₁,e1,h⟩:=Qh h
 obtain⟨b,rfl,h⟩:=GY h
 cases h;exact e1
theorem UZ {e:PySem.Expr}{a:EX}(S:Snd c C d sc V e a)(he:∀env,isTrue e env (eval e env)=(do let v ←eval e env;standAt e.pos;holding [v] (truthy v))):Jy c C d sc V e (tE a):=fun Z Z Z Z Z Z Z Z O AK R F h=>
 isTrue_plain (S.one O AK R F (Ir h) fun m₁ v s₁ x1 y1=>by
  have:=WC y1;clear y1;subst this
  exact wpAny_truthy_bool ⟨rfl,.at x1 trivial⟩) (he _)
theorem Q9 {op:CmpOp}{l r:PySem.Expr}{pos:Pos}{f:PV→PV→H→R PV}{a b:EX}(o:O2 c d (compareOp op) f)(Sa:Snd c C d sc V l a)(Sb:Snd c C d sc V r b)(hm:behindInMarks op r=false):Jy c C d sc V (.Compare l [op] [r] pos) (tE (op2 f a b)):=fun Z Z Z Z Z Z Z Z O AK R F h=>by
 refine wpAny_isTrue_Compare1 ?_ hm
 refine Qy (Sa.two Sb o O AK R F (Ir h)) fun a s₁ h₁=>Qy h₁ fun b s₂ h₂=>Qy h₂ fun v s₃ y=>?_
 refine q1 v ?_;intro Q;obtain⟨m₁,x1,y1⟩:=y.aft
 clear y;have:=WC y1;clear y1;subst this
 exact wpAny_truthy_bool ⟨rfl,.at x1 trivial⟩
theorem Ff {x:PySem.Expr}{pos:Pos}{t:TX}(S:Jy c C d sc V x t):Jy c C d sc V (.UnaryOp .Not x pos) (ZO t):=fun Z Z Z Z Z Z Z Z O AK R F h=>by
 obtain⟨q,σ₁,e1,h⟩:=Qh h
 cases h
 exact isTrue_not (S.one O AK R F e1 fun m₁ s₁ x1=>⟨rfl,.at x1 trivial⟩)
inductive ZS (c:Cx) (C:CT) (d:Nat) (sc:Scope) (V:Vw):List PySem.Expr→List TX→Prop
 |nil:ZS c C d sc V [] []
 |cons {e f es fs}:Jy c C d sc V e f→ZS c C d sc V es fs→ZS c C d sc V (e::es) (f::fs)
theorem Ii {es:List PySem.Expr}{fs:List TX}{pos:Pos}{whole:Sem Value}{A:Around}{env:Env}{ρ:Lc}(L:ZS c C d sc V es fs):∀{s:Shared} {m:Mp} {σ σ':H} {b:Bool},Ym c sc V env→AOk d A→Rep c m σ s.heap→Frm c m σ s.heap V env ρ→Yk fs C c.ns ρ σ=some (b,σ')→
  wpAny (model c.prog c.w) A (isTrue (.BoolOp .And es pos) env whole) (fun b' s'=>b'=b∧Yg c m σ s (fun Z Z Z=>True) W0 σ' s') (fun Z Z=>False) s:=by
 induction L with
 |nil=>intro s m σ σ' b Z Z R Z h;cases h;exact isTrue_and_nil ⟨rfl,.at (.refl R) trivial⟩
 |cons S L ih=>
  intro s m σ σ' b O AK R F h
  obtain⟨q,σ₁,e1,h⟩:=Qh h
  refine isTrue_and (S.one O AK R F e1 fun m₁ s₁ x1=>?_)
  clear e1;cases q with
  |true=>exact Qy (ih O AK x1.rep (x1.frm R F) h) fun Z Z y=>⟨y.1,.of x1 y.2⟩
  |false=>refine q2 σ' b ?_;intro Q;cases h;exact⟨rfl,.at x1 trivial⟩
theorem Gl {es:List PySem.Expr}{fs:List TX}{pos:Pos}{whole:Sem Value}{A:Around}{env:Env}{ρ:Lc}(L:ZS c C d sc V es fs):∀{s:Shared} {m:Mp} {σ σ':H} {b:Bool},Ym c sc V env→AOk d A→Rep c m σ s.heap→Frm c m σ s.heap V env ρ→tOr fs C c.ns ρ σ=some (b,σ')→
  wpAny (model c.prog c.w) A (isTrue (.BoolOp .Or es pos) env whole) (fun b' s'=>b'=b∧Yg c m σ s (fun Z Z Z=>True) W0 σ' s') (fun Z Z=>False) s:=by
 induction L with
 |nil=>intro s m σ σ' b Z Z R Z h;cases h;exact isTrue_or_nil ⟨rfl,.at (.refl R) trivial⟩
 |cons S L ih=>
  intro s m σ σ' b O AK R F h
  obtain⟨q,σ₁,e1,h⟩:=Qh h
  refine isTrue_or (S.one O AK R F e1 fun m₁ s₁ x1=>?_)
  clear e1;cases q with
  |false=>exact Qy (ih O AK x1.rep (x1.frm R F) h) fun Z Z y=>⟨y.1,.of x1 y.2⟩
  |true=>refine q2 σ' b ?_;intro Q;cases h;exact⟨rfl,.at x1 trivial⟩
theorem Kr {es:List PySem.Expr}{fs:List TX}{pos:Pos}(L:ZS c C d sc V es fs):Jy c C d sc V (.BoolOp .And es pos) (Yk fs):=fun Z Z Z Z Z Z Z Z O AK R F h=>Ii L O AK R F h
theorem TA {es:List PySem.Expr}{fs:List TX}{pos:Pos}(L:ZS c C d sc V es fs):Jy c C d sc V (.BoolOp .Or es pos) (tOr fs):=fun Z Z Z Z Z Z Z Z O AK R F h=>Gl L O AK R F h
def QB (e:PySem.Expr):Bool:=match vx e with
 |.oth=>false
 |_=>true
theorem YR {e:PySem.Expr}{es:List PySem.Expr}(h:QB e=true):starEach (e::es) env=(false,eval e env)::starEach es env:=by
 revert h
 refine Jn (Q:=fun n e=>(match n with|.oth=>false|_=>true)=true→starEach (e::es) env=(false,eval e env)::starEach es env) fun n h=>?_
 cases n with
 |oth=>exact ff h
 |_=>rfl
theorem Zp:∀{es:List PySem.Expr} {pos:Pos},es.all QB=true→(backTo pos (starEach es env)).any (·.1)=false
 |[],_,_=>rfl
 |e::es,pos,h=>by
  obtain⟨h1,h2⟩:=Bool.and_eq_true_iff.mp (List.all_cons▸h)
  rw[YR h1]
  exact Zp (es:=es) (pos:=pos) h2
theorem JJ.args {es:List PySem.Expr}{fs:List EX}(L:JJ c C d sc V es fs):∀{pos:Pos} {A:Around} {s:Shared} {env:Env} {m:Mp} {σ σ':H} {ρ:Lc} {ps:List PV},es.all QB=true→Ym c sc V env→AOk d A→Rep c m σ s.heap→Frm c m σ s.heap V env ρ→Jg fs C c.ns ρ σ=some (ps,σ')→
  wpAny (model c.prog c.w) A (spliced (backTo pos (starEach es env))) (fun vs s'=>Yg c m σ s (fun m' σ' h'=>QD c m' σ'.length h' ps vs) W0 σ' s') (fun Z Z=>False) s:=by
 induction L with
 |nil=>intro pos A s env m σ σ' ρ ps Z Z Z R Z h;cases h;exact spliced_nil (.at (.refl R) rfl)
 |cons S L ih=>
  intro pos A s env m σ σ' ρ ps hp O AK R F h
  refine q2 σ' ps ?_;intro Q;obtain⟨h1,h2⟩:=Bool.and_eq_true_iff.mp (List.all_cons▸hp)
  obtain⟨q,σ₁,e1,h⟩:=Qh h
  obtain⟨ps,σ₂,e2,h⟩:=Qh h
  cases h
  dsimp only[Q];rw[YR h1]
  refine spliced_cons (S.one O AK R F e1 fun m₁ v s₁ x1 y1=>?_)
  refine Qy (ih (pos:=pos) h2 O AK x1.rep (x1.frm R F) e2) fun vs s₂ y=>?_
  obtain⟨m₂,x2,y2⟩:=y.aft
  exact .at (x1.trans x2) (by exact⟨v,vs,rfl,x2.val x1.rep y1,y2⟩)
theorem Ww {es:List PySem.Expr}{fs:List EX}{k:Nat}{pos:Pos}(L:JJ c C d sc V es fs)(hp:es.all QB=true):Snd c C d sc V (.Tuple es k pos) (QK fs):=fun Z Z Z Z Z Z Z Z O AK R F h=>by
 refine q1 Z ?_;intro Q;obtain⟨ps,σ₁,e1,h⟩:=Qh h
 obtain⟨k,rfl,rfl⟩:=Mq h
 refine wpAny_Tuple_spliced (Qy (L.args hp O AK R F e1) fun vs s₁ y=>?_)
 obtain⟨m₁,x1,y1⟩:=y.aft
 exact⟨by rw[y1.length];exact Nat.le_trans k (Nat.le_trans (by decide) JQ),.of x1 (.pushT (t:=s₁.toks) x1.rep y1)⟩
theorem J5 {es:List PySem.Expr}{fs:List EX}{pos:Pos}(L:JJ c C d sc V es fs)(hp:es.all QB=true):Snd c C d sc V (.List es pos) (QE fs):=fun Z Z Z Z Z Z Z Z O AK R F h=>by
 obtain⟨ps,σ₁,e1,h⟩:=Qh h
 obtain⟨k,rfl,rfl⟩:=Jt h
 refine wpAny_List_spliced (Qy (L.args hp O AK R F e1) fun vs s₁ y=>?_)
 obtain⟨m₁,x1,y1⟩:=y.aft
 exact⟨by rw[y1.length];exact Nat.le_trans k (Nat.le_trans (by decide) JQ),.of x1 (.pushL (t:=s₁.toks) x1.rep y1)⟩
end
end Mine.Tactic
namespace Mine.Tactic
def NF:Nat:=77
structure Kf (c:Cx):Prop extends Kd c where
 fn:∀f,f<NF→keepIn c.K (.ref (c.fnA f))=true
 cls:∀cl mi,GR cl=some mi→keepIn c.K (.ref (c.clsA cl))=true∧makesIn c.K (c.clsA cl)=true∧findIn c.K (.ref (c.clsA cl)) "__init__"=some (some (.ref (c.fnA mi)))∧typeIn c.K (.ref (c.fnA mi))=some (.type "function")∧mi<NF
 mth:∀cl k f,GB cl k=some f→findIn c.K (.ref (c.clsA cl)) (Q6 k)=some (some (.ref (c.fnA f)))∧typeIn c.K (.ref (c.fnA f))=some (.type "function")∧findIn c.K (.ref (c.clsA cl)) "__getattribute__"=some (some (.builtin "object.__getattribute__"))∧findIn c.K (.ref (c.clsA cl)) "__getattr__"=some none∧k<NA∧f<NF
structure ZW (d:Nat) (A:Around):Prop where
 handled:A.handled=none
 depth:A.depth+3*d+2≤recursionLimit
 units:A.units+40*d+80≤cLine
theorem AOk.call {d:Nat}{A:Around}(x:AOk d A):ZW d A:=⟨x.handled,by have:=x.depth;exact o75 this,by have:=x.units;exact o136 this⟩
theorem ZW.body {d:Nat}{A:Around}(x:ZW (d+1) A)(env:Env):AOk d (A.deeper env):=⟨x.handled,by have:=x.depth;show A.depth+1+3*d+4≤_;exact o137 this,by have:=x.units;show A.units+3+40*d+100≤_;exact o138 this⟩
theorem AOk.make {d:Nat}{A:Around}(x:AOk d A)(C:Addr)(vs:List Value):ZW d (A.under (.builtin "type.__call__" ⟨.ref C::vs,[]⟩)):=by
 have w:(Code.builtin "type.__call__" ⟨.ref C::vs,[]⟩).weight=1:=by kernel_rfl
 have u:(Code.builtin "type.__call__" ⟨.ref C::vs,[]⟩).cUnits=1:=by kernel_rfl
 have h1:=x.depth
 have h2:=x.units
 refine⟨x.handled,?_,?_⟩
 ·show A.depth+(Code.builtin "type.__call__" ⟨.ref C::vs,[]⟩).weight+3*d+2≤_
  rw[w];exact o139 h1
 ·show A.units+(Code.builtin "type.__call__" ⟨.ref C::vs,[]⟩).cUnits+40*d+80≤_
  rw[u];exact o76 h2
def I4 (Q:Value→Shared→Prop)(r:Result)(s':Shared):Prop:=match r with
 |.ok (.ret v)=>Q v s'
 |_=>False
def YP (c:Cx)(d:Nat)(C:CT):Prop:=∀⦃A:Around⦄ ⦃s:Shared⦄ ⦃m:Mp⦄ ⦃σ σ':H⦄ ⦃f:Nat⦄ ⦃ps:List PV⦄ ⦃p:PV⦄ ⦃vs:List Value⦄,f<NF→ZW d A→Rep c m σ s.heap→QD c m σ.length s.heap ps vs→C f ps σ=some (p,σ')→
 codeAny (model c.prog c.w) A (.call (.ref (c.fnA f)) ⟨vs,[]⟩) (I4 (QF c m σ s p σ')) s
theorem YP.call {c:Cx}{d:Nat}{C:CT}(HC:YP c d C){A:Around}{s:Shared}{m:Mp}{σ σ':H}{f:Nat}{ps:List PV}{p:PV}{vs:List Value}(hf:f<NF)(AK:ZW d A)(R:Rep c m σ s.heap)(y:QD c m σ.length s.heap ps vs)(h:C f ps σ=some (p,σ')):
  wpAny (model c.prog c.w) A (call (.ref (c.fnA f)) vs) (QF c m σ s p σ') (fun Z Z=>False) s:=
 wpAny_call (codeAny_mono (HC hf AK R y h) fun r s' z=>by
  rcases r with e|(v|_|_|_)<;>first|exact z|exact z.elim)
def Jm (c:Cx)(sc:Scope)(x:Str)(v:Value):Prop:=sc.names.lookup x=some .globalImplicit∧(x==("__debug__":Str))=false∧c.mg x=none∧bootBuiltins x=some v∧x≠"__name__"
def HR (c:Cx)(sc:Scope)(x:Str)(v:Value):Prop:=sc.names.lookup x=some .globalImplicit∧(x==("__debug__":Str))=false∧c.mg x=some v
section
variable {c:Cx} {C:CT} {d:Nat} {sc:Scope} {V:Vw} {m m₁ m₂:Mp} {σ σ₁ σ₂:H} {s s₁ s₂:Shared} {W:Addr→Prop} {env:Env} {ρ:Lc} {A:Around}
theorem Zu {M:Model}{x:Str}{v:Value}{pos:Pos}{Q:Value→Shared→Prop}{E:Value→Shared→Prop}(G:Gd c)(O:Ym c sc V env)(R:Rep c m σ s.heap)(h:Jm c sc x v)(q:Q v s):wpAny M A (eval (.Name x pos) env) Q E s:=by
 obtain⟨h1,h2,h3,h4,h5⟩:=h
 have kf:=O.kind
 rw[←O.scp]at kf h1
 exact Name_function_global kf h1 (loadGlobal_builtin (mg:=c.mg) (mb:=c.mb) (by rw[O.glb];exact G.g.keeps R.base) h3 (by rw[O.blt];exact G.b.keeps R.base) ((G.blt x h5).trans h4) q) h2
theorem BC {M:Model}{x:Str}{v:Value}{pos:Pos}{Q:Value→Shared→Prop}{E:Value→Shared→Prop}(G:Gd c)(O:Ym c sc V env)(R:Rep c m σ s.heap)(h:HR c sc x v)(q:Q v s):wpAny M A (eval (.Name x pos) env) Q E s:=by
 obtain⟨h1,h2,h3⟩:=h
 have kf:=O.kind
 rw[←O.scp]at kf h1
 exact Name_function_global kf h1 (loadGlobal_global (mg:=c.mg) (by rw[O.glb];exact G.g.keeps R.base) h3 q) h2
theorem Wo {es:List PySem.Expr}(hp:es.all QB=true)(hne:es≠[]):∃e rest,es=e::rest∧starEach es env=(false,eval e env)::starEach rest env:=by
 refine q1 es ?_;intro Q;cases es with
 |nil=>exact absurd rfl hne
 |cons e rest=>exact⟨e,rest,rfl,YR (Bool.and_eq_true_iff.mp (List.all_cons▸hp)).1⟩
theorem Pa {M:Model}{E:Value→Shared→Prop}{id:String}{es:List PySem.Expr}{pos:Pos}{first:List Value}{Q:Value→Shared→Prop}(hp:es.all QB=true)(hne:es≠[])
  (h:wpAny M A (spliced (backTo pos (starEach es env))) (fun vs s₁=>wpAny M A (call (.builtin id) (first++vs)) Q E s₁) E s):wpAny M A (callWith pos (.builtin id) first (backTo pos (starEach es env)) []) Q E s:=by
 have hs:=Zp (env:=env) (pos:=pos) hp
 obtain⟨e,rest,rfl,he⟩:=Wo (env:=env) hp hne
 refine callWith_builtin hs ?_
 rw[he]at h ⊢
 exact evalArgs_plain h
theorem HO {M:Model}{E:Value→Shared→Prop}{T:String}{es:List PySem.Expr}{pos:Pos}{first:List Value}{Q:Value→Shared→Prop}(hp:es.all QB=true)(hne:es≠[])
  (h:wpAny M A (spliced (backTo pos (starEach es env))) (fun vs s₁=>wpAny M A (call (.type T) (first++vs)) Q E s₁) E s):wpAny M A (callWith pos (.type T) first (backTo pos (starEach es env)) []) Q E s:=by
 have hs:=Zp (env:=env) (pos:=pos) hp
 obtain⟨e,rest,rfl,he⟩:=Wo (env:=env) hp hne
 refine PyProof.Rows.callWith_type hs ?_
 rw[he]at h ⊢
 exact evalArgs_plain h
theorem LR {M:Model}{E:Value→Shared→Prop}{f:Value}{es:List PySem.Expr}{pos:Pos}{first:List Value}{Q:Value→Shared→Prop}(hp:es.all QB=true)(hne:es≠[])(hk:keepIn c.K f=true)
  (h:wpAny M A (spliced (backTo pos (starEach es env))) (fun vs s₁=>c.K.In s₁.heap∧wpAny M A (call f (first++vs)) Q E s₁) E s):wpAny M A (callWith pos f first (backTo pos (starEach es env)) []) Q E s:=by
 have hs:=Zp (env:=env) (pos:=pos) hp
 obtain⟨e,rest,rfl,he⟩:=Wo (env:=env) hp hne
 refine callWith_of (P:=c.K.In) (by rw[hs];rfl) (keeps_K hk) ?_
 rw[he]at h ⊢
 exact evalArgs_plain h
theorem Vt {M:Model}{E:Value→Shared→Prop}{f:Value}{pos:Pos}{first:List Value}{Q:Value→Shared→Prop}(hk:keepIn c.K f=true)(X:c.K.In s.heap)
 (h:wpAny M A (call f (first++[])) Q E s):wpAny M A (callWith pos f first (backTo pos (starEach [] env)) []) Q E s:=callWith_K0 X hk h
theorem JJ.one1 {e:PySem.Expr}{f:EX}(S:Snd c C d sc V e f)(hp:QB e=true){pos:Pos}(O:Ym c sc V env)(AK:AOk d A)(R:Rep c m σ s.heap)(F:Frm c m σ s.heap V env ρ){p:PV}(h:f C c.ns ρ σ=some (p,σ₁)){Q:List Value→Shared→Prop}{E:Value→Shared→Prop}
  (k:∀m₁ v s₁,Aft c W0 m σ s m₁ σ₁ s₁→Val c m₁ σ₁.length s₁.heap p v→Q [v] s₁):wpAny (model c.prog c.w) A (spliced (backTo pos (starEach [e] env))) Q E s:=by
 rw[YR hp]
 exact spliced_cons (S.one O AK R F h fun m₁ v s₁ x y=>spliced_nil (k m₁ v s₁ x y))
theorem JJ.two2 {a b:PySem.Expr}{fa fb:EX}(Sa:Snd c C d sc V a fa)(Sb:Snd c C d sc V b fb)(hp:QB a=true)(hq:QB b=true){pos:Pos}(O:Ym c sc V env)(AK:AOk d A)(R:Rep c m σ s.heap)(F:Frm c m σ s.heap V env ρ){p q:PV}(h:fa C c.ns ρ σ=some (p,σ₁))(h':fb C c.ns ρ σ₁=some (q,σ₂)){Q:List Value→Shared→Prop}{E:Value→Shared→Prop}
  (k:∀m₁ v u s₁,Aft c W0 m σ s m₁ σ₂ s₁→Val c m₁ σ₂.length s₁.heap p v→Val c m₁ σ₂.length s₁.heap q u→Q [v,u] s₁):wpAny (model c.prog c.w) A (spliced (backTo pos (starEach [a,b] env))) Q E s:=by
 rewrite [YR hp,YR hq]
 exact spliced_cons (Sa.one O AK R F h fun m₁ v s₁ x y=>spliced_cons (Sb.one O AK x.rep (x.frm R F) h' fun m₂ u s₂ x2 y2=>spliced_nil (k m₂ v u s₂ (x.trans x2) (x2.val x.rep y) y2)))
theorem FQ {x:Str}{id:String}{e:PySem.Expr}{p pos:Pos}{f:PV→H→R PV}{a:EX}(G:Gd c)(hb:Jm c sc x (.builtin id))(o:O1 c d (fun v=>call (.builtin id) [v]) f)(S:Snd c C d sc V e a)(hp:QB e=true):Snd c C d sc V (.Call (.Name x p) [e] [] pos) (op1 f a):=fun Z Z Z Z Z Z Z Z O AK R F h=>by
 obtain⟨q,σ₁,e1,e2⟩:=JP h
 refine Call_Name rfl (Zu G O R hb (Pa (es:=[e]) (by simp[hp]) (by simp) ?_))
 exact JJ.one1 S hp O AK R F e1 fun m₁ v s₁ x1 y1=>Qy (o AK x1.rep y1 e2) fun Z Z y=>.of x1 y
theorem Mw {x:Str}{T:String}{e:PySem.Expr}{p pos:Pos}{f:PV→H→R PV}{a:EX}(G:Gd c)(hb:Jm c sc x (.type T))(o:O1 c d (fun v=>call (.type T) [v]) f)(S:Snd c C d sc V e a)(hp:QB e=true):Snd c C d sc V (.Call (.Name x p) [e] [] pos) (op1 f a):=fun Z Z Z Z Z Z Z Z O AK R F h=>by
 obtain⟨q,σ₁,e1,e2⟩:=JP h
 refine Call_Name rfl (Zu G O R hb (HO (es:=[e]) (by simp[hp]) (by simp) ?_))
 exact JJ.one1 S hp O AK R F e1 fun m₁ v s₁ x1 y1=>Qy (o AK x1.rep y1 e2) fun Z Z y=>.of x1 y
theorem L2 {x:Str}{id:String}{e e':PySem.Expr}{p pos:Pos}{f:PV→PV→H→R PV}{a b:EX}(G:Gd c)(hb:Jm c sc x (.builtin id))(o:O2 c d (fun v u=>call (.builtin id) [v,u]) f)(S:Snd c C d sc V e a)(S':Snd c C d sc V e' b)(hp:QB e=true)(hp':QB e'=true):Snd c C d sc V (.Call (.Name x p) [e,e'] [] pos) (op2 f a b):=fun Z Z Z Z Z Z Z Z O AK R F h=>by
 obtain⟨q,σ₁,r,σ₂,e1,e2,e3⟩:=Un h
 refine Call_Name rfl (Zu G O R hb (Pa (es:=[e,e']) (by simp[hp,hp']) (by simp) ?_))
 exact JJ.two2 S S' hp hp' O AK R F e1 e2 fun m₁ v u s₁ x1 y1 y2=>Qy (o AK x1.rep y1 y2 e3) fun Z Z y=>.of x1 y
theorem KP {x:Str}{f:Nat}{es:List PySem.Expr}{fs:List EX}{p pos:Pos}(G:Kf c)(HC:YP c d C)(hf:f<NF)(hv:HR c sc x (.ref (c.fnA f)))(L:JJ c C d sc V es fs)(hp:es.all QB=true)(hne:es≠[]):Snd c C d sc V (.Call (.Name x p) es [] pos) (Qn f fs):=fun Z Z Z Z Z Z Z Z O AK R F h=>by
 obtain⟨ps,σ₁,e1,e2⟩:=Qh h
 refine Call_Name rfl (BC G.toGd O R hv (LR hp hne (G.fn f hf) (Qy (L.args hp O AK R F e1) fun vs s₁ y=>?_)))
 obtain⟨m₁,x1,y1⟩:=y.aft
 exact⟨Ze G.toKd x1.rep,Qy (HC.call hf AK.call x1.rep y1 e2) fun Z Z y=>.of x1 y⟩
theorem Pe (G:Kf c)(HC:YP c d C)(AK:AOk d A)(R:Rep c m σ s.heap){cl mi:Nat}{ps:List PV}{vs:List Value}{r:PV}(hi:GR cl=some mi)(y:QD c m σ.length s.heap ps vs)(h:C mi (.loc σ.length::ps) (σ++[.ins cl []])=some (r,σ₁))(hr:r=.none):
  wpAny (model c.prog c.w) A (call (.ref (c.clsA cl)) vs) (QF c m σ s (.loc σ.length) σ₁) (fun Z Z=>False) s:=by
 subst hr
 obtain⟨g1,g2,g3,g4,g5⟩:=G.cls cl mi hi
 have X:=Ze G.toKd R
 refine wpAny_call ?_
 obtain⟨hh,gg,dd,tt,os⟩:=s
 refine make_core (makes_of X g2) (looks_findIn X g3) (fun self=>bind_fn X self g4) (.inl rfl) ?_
 have k:∀b o,hh.get? b=some o→((hh.push emptyDict).push (instObj (c.clsA cl) hh.objs.size)).get? b=some o:=fun b o e=>Heap.get?_push_of_some _ (Heap.get?_push_of_some _ e)
 have hx:((hh.push emptyDict).push (instObj (c.clsA cl) hh.objs.size)).get? (hh.objs.size+1)=some (instObj (c.clsA cl) hh.objs.size):=by heap_get
 have hd:((hh.push emptyDict).push (instObj (c.clsA cl) hh.objs.size)).get? hh.objs.size=some emptyDict:=by heap_get
 have S:Stp c W0 m σ hh (m.put σ.length (hh.objs.size+1) hh.objs.size) (σ++[.ins cl []]) ((hh.push emptyDict).push (instObj (c.clsA cl) hh.objs.size)):=
  .make R k (JL _) ⟨by rw[Mp.put_φ,Mp.put_μ];exact hx,[],0,by rw[Mp.put_μ];exact hd,by simp only[ZE]⟩
 have x1:Aft c W0 m σ ⟨hh,gg,dd,tt,os⟩ (m.put σ.length (hh.objs.size+1) hh.objs.size) (σ++[.ins cl []]) ⟨(hh.push emptyDict).push (instObj (c.clsA cl) hh.objs.size),gg,dd,tt,os⟩:=⟨_,tt,rfl,S⟩
 have yy:QD c (m.put σ.length (hh.objs.size+1) hh.objs.size) (σ++[AO.ins cl []]).length ((hh.push emptyDict).push (instObj (c.clsA cl) hh.objs.size)) (.loc σ.length::ps) (.ref (hh.objs.size+1)::vs):=by
  refine⟨_,_,rfl,?_,x1.vals R y⟩
  rw[List.length_append];exact⟨Nat.lt_succ_self _,by rw[Mp.put_φ]⟩
 refine codeAny_mono (HC g5 (AK.make (c.clsA cl) vs) x1.rep yy h) fun r s' z=>?_
 rcases r with e|(v|_|_|_)<;>first|exact z.elim|skip
 obtain⟨m₂,x2,y2⟩:=QF.aft z
 refine⟨y2,?_⟩
 have lt:σ.length<(σ++[AO.ins cl []]).length:=by simp only[List.length_append,List.length_singleton];exact Nat.lt_succ_self _
 refine .of (x1.trans x2) (.here x2.rep ?_)
 refine⟨Nat.lt_of_lt_of_le lt x2.stp.len,?_⟩
 rw[(x2.stp.ext _ lt).1,Mp.put_φ]
theorem D9 {cl:Nat}{es:List EX}{r:PV}(h:Jl cl es C c.ns ρ σ=some (r,σ₂)):∃ps σ₁ mi,Jg es C c.ns ρ σ=some (ps,σ₁)∧GR cl=some mi∧C mi (.loc σ₁.length::ps) (σ₁++[.ins cl []])=some (.none,σ₂)∧r=.loc σ₁.length:=by
 refine q2 σ₂ r ?_;intro Q;obtain⟨ps,σ₁,e1,h⟩:=Qh h
 obtain⟨mi,hi,h⟩:=omN h
 obtain⟨q,σ₃,e2,h⟩:=Qh h
 cases q with
 |none=>cases h;exact⟨ps,σ₁,mi,e1,hi,e2,rfl⟩
 |_=>exact fo h
theorem Ss {x:Str}{cl:Nat}{es:List PySem.Expr}{fs:List EX}{p pos:Pos}(G:Kf c)(HC:YP c d C)(hv:HR c sc x (.ref (c.clsA cl)))(L:JJ c C d sc V es fs)(hp:es.all QB=true)(hne:es≠[]):Snd c C d sc V (.Call (.Name x p) es [] pos) (Jl cl fs):=fun Z Z Z Z Z Z Z Z O AK R F h=>by
 obtain⟨ps,σ₁,mi,e1,hi,e2,rfl⟩:=D9 h
 refine Call_Name rfl (BC G.toGd O R hv (LR hp hne (G.cls cl mi hi).1 (Qy (L.args hp O AK R F e1) fun vs s₁ y=>?_)))
 obtain⟨m₁,x1,y1⟩:=y.aft
 exact⟨Ze G.toKd x1.rep,Qy (Pe G HC AK x1.rep hi y1 e2 rfl) fun Z Z y=>.of x1 y⟩
theorem L0 {x:Str}{cl:Nat}{p pos:Pos}(G:Kf c)(HC:YP c d C)(hv:HR c sc x (.ref (c.clsA cl))):Snd c C d sc V (.Call (.Name x p) [] [] pos) (Jl cl []):=fun Z Z Z Z Z Z Z Z O AK R F h=>by
 refine q1 Z ?_;intro Q;obtain⟨ps,σ₁,mi,e1,hi,e2,rfl⟩:=D9 h
 clear h;cases e1
 exact Call_Name rfl (BC G.toGd O R hv (Vt (G.cls cl mi hi).1 (Ze G.toKd R) (Pe G HC AK R hi (by rfl) e2 rfl)))
set_option tactic.hygienic true in
theorem PP {o:EX}{k:Nat}{es:List EX}{r:PV}(h:Qx o k es C c.ns ρ σ=some (r,σ₂)):∃p σ₁ cl f ps σ',o C c.ns ρ σ=some (p,σ₁)∧M5 k p σ₁=some cl∧GB cl k=some f∧Jg es C c.ns ρ σ₁=some (ps,σ')∧C f (p::ps) σ'=some (r,σ₂):=by
 refine q0 ?_;intro Q;obtain⟨p,σ₁,e1,h⟩:=Qh h
 obtain⟨cl,hc,h⟩:=omN h
 obtain⟨f,hm,h⟩:=omN h
 obtain⟨ps,σ',e2,h⟩:=Qh h
 exact⟨p,σ₁,cl,f,ps,σ',e1,hc,hm,e2,h⟩
theorem Ho {k:Nat}{p:PV}{cl:Nat}(h:M5 k p σ=some cl):∃l fs,p=.loc l∧σ[l]?=some (.ins cl fs)∧Z9 k fs=none:=by
 refine ifP_some (G:=fun p=>∃l fs,p=.loc l∧σ[l]?=some (.ins cl fs)∧Z9 k fs=none) h fun l e=>?_
 clear h;refine q1 cl ?_;intro Q;obtain⟨c,fs,e1,e⟩:=Mc e
 obtain⟨q,e⟩:=Q1 e
 cases e
 exact⟨l,fs,rfl,e1,Option.isNone_iff_eq_none.mp q⟩
theorem Fd {E:Value→Shared→Prop}(G:Kf c)(R:Rep c m σ s.heap){k cl f:Nat}{p:PV}{v:Value}{pl:Sem Bool}{Q:Value×List Value→Shared→Prop}(hc:M5 k p σ=some cl)(hm:GB cl k=some f)(y:Val c m σ.length s.heap p v)(q:Q (.ref (c.fnA f),[v]) s):wpAny (model c.prog c.w) A (getMethod v (Q6 k) pl) Q E s:=by
 refine q1 v ?_;intro Q;obtain⟨l,fs,rfl,el,hf⟩:=Ho hc
 obtain⟨g1,g2,g3,g4,g5,g6⟩:=G.mth cl k f hm
 obtain⟨rfl,es,n,I,F⟩:=Ea R el y
 have L:=U7 g5 F
 rw[hf]at L
 refine method_fn (Ze G.toKd R) I g3 g4 g1 g2 ?_ q
 show(lookIn (Q6 k) (dictOf es n)).map _=_
 simp only[lookIn_dict]
 unfold PySem.W.getL
 rw[L,no_refs F]
 rfl
theorem Wi {o:PySem.Expr}{x:Str}{k:Nat}{es:List PySem.Expr}{a:EX}{fs:List EX}{apos pos:Pos}(G:Kf c)(HC:YP c d C)(hx:x=Q6 k)(S:Snd c C d sc V o a)(L:JJ c C d sc V es fs)(hp:es.all QB=true)(hne:es≠[])
  (he:∀env,∃pl,eval (.Call (.Attribute o x apos) es [] pos) env=(do
   let ov ←eval o env
   standAt apos.atName
   let (f,first) ←holding [ov] (getMethod ov x pl)
   callWith pos f first (backTo pos (starEach es env)) (backToKw pos (keywordEach [] env)))):Snd c C d sc V (.Call (.Attribute o x apos) es [] pos) (Qx a k fs):=fun{A s env m σ σ' ρ p} O AK R F h=>by
 refine q1 x ?_;intro Q;subst hx
 obtain⟨q,σ₁,cl,f,ps,σ₂,e1,hc,hm,e2,e3⟩:=PP h
 obtain⟨pl,he⟩:=he env
 obtain⟨_,_,_,_,_,g6⟩:=G.mth cl k f hm
 refine methodCall_KW (kws:=[]) (S.one O AK R F e1 fun m₁ v s₁ x1 y1=>Fd G x1.rep hc hm y1 ?_) he
 refine LR hp hne (G.fn f g6) (Qy (L.args hp O AK x1.rep (x1.frm R F) e2) fun vs s₂ y=>?_)
 obtain⟨m₂,x2,y2⟩:=y.aft
 refine⟨Ze G.toKd x2.rep,Qy (HC.call g6 AK.call x2.rep (ps:=q::ps) (by exact⟨_,_,rfl,x2.val x1.rep y1,y2⟩) e3) fun Z Z y=>.of (x1.trans x2) y⟩
end
end Mine.Tactic
namespace Mine.Tactic
section
variable {c:Cx} {C:CT} {d:Nat} {sc:Scope} {V:Vw} {m m₁ m₂:Mp} {σ σ₁ σ₂:H} {s s₁ s₂:Shared} {W:Addr→Prop} {env:Env} {ρ:Lc} {A:Around}
theorem Stp.adopt {h hp h₁ h':Heap}{a:Addr}{od:Obj}{o':AO}(R:Rep c m σ h)(k:∀b o,h.get? b=some o→hp.get? b=some o)(h0:h.get? a=none)(hpd:hp.get? a=some od)(hdc:od.cls=.type "dict")(y:Stp c W0 m σ hp m₁ σ₁ h₁)(hs:Heap.SameBut a h₁ h')
  (ho:YD h₁ h'→Jz c (m₁.put σ₁.length a a) (σ₁.length+1) h' σ₁.length o'):Stp c W0 m σ h (m₁.put σ₁.length a a) (σ₁++[o']) h':=by
 have n0:∀l,l<σ.length→m.μ l≠a:=fun l hl q=>by obtain⟨o,e,_⟩:=R.mut hl;rw[q,h0]at e;cases e
 have h1d:h₁.get? a=some od:=y.keep a od hpd n0 fun w=>w
 have n1:∀l,l<σ₁.length→m₁.μ l≠a:=fun l hl q=>by
  rcases Nat.lt_or_ge l σ.length with z|z
  ·exact n0 l z ((y.ext l z).2.symm.trans q)
  ·have:=y.fresh l z hl;rw[q,hpd]at this;cases this
 clear hpd;have p1:∀l,l<σ₁.length→m₁.φ l≠a:=fun l hl q=>by
  obtain⟨o,_,x⟩:=y.rep.there hl
  rcases x.phi with e|⟨C',d',e⟩
  ·exact n1 l hl (e▸q)
  ·rw[q,h1d]at e;clear h1d;cases e;cases hdc
 have hg:c.g.get? a=none:=by
  cases z:c.g.get? a with
  |none=>rfl
  |some o=>rw[R.base _ _ z]at h0;cases h0
 have ht:YD h₁ h':=fun b its t=>by
  obtain⟨o,e,hc,r⟩:=id t
  refine⟨o,(hs.2 b fun q=>?_).trans e,hc,r⟩
  clear r;rw[q,h1d]at e;cases e;rw[hdc]at hc;simp at hc
 have lt:∀l,l<(σ₁++[o']).length→l≠σ₁.length→l<σ₁.length:=fun l hl hn=>by
  simp only[List.length_append,List.length_singleton]at hl;omega
 refine⟨⟨fun b o e=>?_,fun l o e=>?_,fun l hl=>?_,fun l l' hl hl' e=>?_⟩,?_,fun l hl=>?_,fun l a1 b1=>?_,fun b o e n w=>?_,fun b o e=>?_⟩
 ·exact(hs.2 b fun q=>by rw[q,hg]at e;cases e).trans (y.rep.base b o e)
 ·simp only[List.length_append,List.length_singleton]
  rcases Nat.lt_or_ge l σ₁.length with q|q
  ·rewrite [List.getElem?_append_left q]at e
   exact(y.rep.obj l o e).keep ht (Mp.put_ext _ _ _ _) (Nat.le_succ _) q (fun o e=>(hs.2 _ (n1 l q)).trans e) (fun o e=>(hs.2 _ (p1 l q)).trans e)
  ·have hl:=Qc e
   rw[List.length_append,List.length_singleton]at hl
   have:l=σ₁.length:=by exact o44 hl q
   clear hl q;subst this
   rewrite [List.getElem?_append_right (Nat.le_refl _)]at e
   simp at e
   subst e
   exact ho ht
 ·by_cases q:l=σ₁.length
  ·subst q;rw[Mp.put_μ];exact hg
  ·rw[(Mp.put_ext m₁ σ₁.length a a l (lt l hl q)).2];exact y.rep.new l (lt l hl q)
 ·by_cases qa:l=σ₁.length<;>by_cases qb:l'=σ₁.length
  ·rw[qa,qb]
  ·subst qa
   rw[Mp.put_μ,(Mp.put_ext m₁ σ₁.length a a l' (lt l' hl' qb)).2]at e
   exact absurd e.symm (n1 l' (lt l' hl' qb))
  ·subst qb
   rw[Mp.put_μ,(Mp.put_ext m₁ σ₁.length a a l (lt l hl qa)).2]at e
   exact absurd e (n1 l (lt l hl qa))
  ·rw[(Mp.put_ext m₁ σ₁.length a a l (lt l hl qa)).2,(Mp.put_ext m₁ σ₁.length a a l' (lt l' hl' qb)).2]at e
   exact y.rep.inj l l' (lt l hl qa) (lt l' hl' qb) e
 ·rw[List.length_append];exact Nat.le_trans y.len (Nat.le_add_right _ _)
 ·have:=Mp.put_ext m₁ σ₁.length a a l (Nat.lt_of_lt_of_le hl y.len)
  have z:=y.ext l hl
  exact⟨this.1.trans z.1,this.2.trans z.2⟩
 ·by_cases q:l=σ₁.length
  clear b1 a1;· subst q;rw[Mp.put_μ];exact h0
  ·rw[(Mp.put_ext m₁ σ₁.length a a l (lt l b1 q)).2]
   have:=y.fresh l a1 (lt l b1 q)
   cases z:h.get? (m₁.μ l)with
   |none=>rfl
   |some o=>rw[k _ _ z]at this;cases this
 ·have ne:b≠a:=fun q=>by rw[q,h0]at e;cases e
  exact(hs.2 b ne).trans (y.keep b o (k b o e) n w)
 ·have ne:b≠a:=fun q=>by rw[q,h0]at e;cases e
  obtain⟨o2,e2⟩:=y.stay b o (k b o e)
  exact⟨o2,(hs.2 b ne).trans e2⟩
theorem MB {K:Type} [DecidableEq K]{knd:KeyKind c.prog c.w K}{h:Heap}{a:Addr}(e:h.get? a=some {cls:=.type "dict",data:=.dict #[]}):h.DictOf knd a []:=
 ⟨_,#[],0,e,⟨rfl,rfl,rfl⟩,rfl,fun e he=>by simp at he,.nil,by simp⟩
theorem QF.newD {h':Heap}{a:Addr}{t:Nat}(R:Rep c m σ s.heap)(k:∀b o,s.heap.get? b=some o→h'.get? b=some o)(ha:s.heap.get? a=none)(hl:h'.get? a=some {cls:=.type "dict",data:=.dict #[]}):
  QF c m σ s (.loc σ.length) (σ++[.dct []]) (.ref a) {s with heap:=h',toks:=t}:=by
 refine⟨m.put σ.length a a,h',t,rfl,.make R k ha ⟨?_,?_⟩,?_⟩
 ·rw[Mp.put_φ,Mp.put_μ]
 ·rw[Mp.put_μ];exact .kInt [] (MB hl) rfl
 ·show Val c (m.put σ.length a a) (σ++[AO.dct []]).length h' (.loc σ.length) _
  rw[List.length_append];exact⟨Nat.lt_succ_self _,by rw[Mp.put_φ]⟩
theorem Py {pos:Pos}:Snd c C d sc V (.Dict [] [] pos) Zc:=fun{A s env m σ σ' ρ p} O AK R F h=>by
 cases h
 refine wpAny_Dict_empty ?_
 exact .newD (t:=s.toks) R (YW _ _) (JL _) (Heap.get?_push_size _ rfl)
theorem Tj:O1 c d (fun o=>call (.type "dict") [o]) OY:=fun{A s m σ σ' p q v} AK R x e=>by
 refine vL R e x fun l ps vs e el hx hv=>?_
 clear el;obtain⟨k,e⟩:=Q1 e
 refine pS e ?_
 cases ps with
 |nil=>cases hv;exact D1 AK.handled hx fun h' tk hk hn=>.newD R hk (JL _) hn
 |cons _ _=>exact ff k
theorem G5 {p:PV}(h:Jo p σ=true):∃l ps,p=.loc l∧σ[l]?=some (.lst ps):=by
 unfold Jo at h
 obtain⟨ps,e⟩:=Option.isSome_iff_exists.mp h
 obtain⟨l,a,b⟩:=GT e
 exact⟨l,ps,a,b⟩
theorem Hb {p:PV}(h:JU p σ=true):∃l es,p=.loc l∧σ[l]?=some (.dct es):=by
 obtain⟨ps,e⟩:=Option.isSome_iff_exists.mp h
 exact dctK_some (G:=fun p=>∃l es,p=.loc l∧σ[l]?=some (.dct es)) e fun m l e Z=>⟨m,l,rfl,e⟩
theorem M7 {name:Str}{id:String}{pl:Sem Bool}{p:PV}{v:Value}{Q:Value×List Value→Shared→Prop}(slot:Slot "list" name id)(hty:typeOf (.builtin id)=pure (.type "method_descriptor"))(R:Rep c m σ s.heap)(hp:Jo p σ=true)(y:Val c m σ.length s.heap p v)
  (q:Q (.builtin id,[v]) s):wpAny (model c.prog c.w) A (getMethod v name pl) Q (fun Z Z=>False) s:=by
 obtain⟨l,ps,rfl,el⟩:=G5 hp
 obtain⟨vs,rfl,⟨n,ho⟩,hv⟩:=TN R el y
 exact getMethod_builtin ⟨_,ho,rfl⟩ PySem.F.plainAttrs_list slot hty (fun a e=>by cases e;exact⟨_,ho,rfl⟩) q
theorem Lr {name:Str}{id:String}{pl:Sem Bool}{p:PV}{v:Value}{Q:Value×List Value→Shared→Prop}(slot:Slot "dict" name id)(hty:typeOf (.builtin id)=pure (.type "method_descriptor"))(R:Rep c m σ s.heap)(hp:JU p σ=true)(y:Val c m σ.length s.heap p v)
  (q:Q (.builtin id,[v]) s):wpAny (model c.prog c.w) A (getMethod v name pl) Q (fun Z Z=>False) s:=by
 obtain⟨l,es,rfl,el⟩:=Hb hp
 obtain⟨rfl,D⟩:=V9 R el y
 have:∃o,s.heap.get? (m.μ l)=some o∧o.ExactDict:=by
  cases D with
  |kInt kvs hd _=>obtain⟨o,_,_,ho,hc,_⟩:=hd;exact⟨o,ho,hc⟩
  |kStr kvs hd _=>obtain⟨o,_,_,ho,hc,_⟩:=hd;exact⟨o,ho,hc⟩
 obtain⟨o,ho,hc⟩:=this
 exact getMethod_builtin ⟨_,ho,hc.1⟩ PySem.F.plainAttrs_dict slot hty (fun a e=>by cases e;exact⟨_,ho,hc.2.1⟩) q
def JN (o:PySem.Expr)(x:Str)(apos pos:Pos)(es:List PySem.Expr):Prop:=∀env,∃pl,eval (.Call (.Attribute o x apos) es [] pos) env=(do
 let ov ←eval o env
 standAt apos.atName
 let (f,first) ←holding [ov] (getMethod ov x pl)
 callWith pos f first (backTo pos (starEach es env)) (backToKw pos (keywordEach [] env)))
theorem PO {k:PV→H→Bool}{f:PV→PV→H→R PV}{a b:EX}{p:PV}(h:TU k f a b C c.ns ρ σ=some (p,σ₂)):∃q σ₁ r σ',a C c.ns ρ σ=some (q,σ₁)∧k q σ₁=true∧b C c.ns ρ σ₁=some (r,σ')∧f q r σ'=some (p,σ₂):=by
 refine q0 ?_;intro Q;obtain⟨q,σ₁,e1,h⟩:=Qh h
 obtain⟨hk,h⟩:=btS h
 obtain⟨r,σ',e2,h⟩:=Qh h
 exact⟨q,σ₁,r,σ',e1,hk,e2,h⟩
theorem Lp {k:PV→H→Bool}{f:PV→PV→PV→H→R PV}{a b e:EX}{p:PV}(h:Tr k f a b e C c.ns ρ σ=some (p,σ₂)):∃q σ₁ r σ' t σ'',a C c.ns ρ σ=some (q,σ₁)∧k q σ₁=true∧b C c.ns ρ σ₁=some (r,σ')∧e C c.ns ρ σ'=some (t,σ'')∧f q r t σ''=some (p,σ₂):=by
 refine q0 ?_;intro Q;obtain⟨q,σ₁,e1,h⟩:=Qh h
 obtain⟨hk,h⟩:=btS h
 obtain⟨r,σ',e2,h⟩:=Qh h
 obtain⟨t,σ'',e3,h⟩:=Qh h
 exact⟨q,σ₁,r,σ',t,σ'',e1,hk,e2,e3,h⟩
theorem HU {o e:PySem.Expr}{x:Str}{id:String}{apos pos:Pos}{a b:EX}{f:PV→PV→H→R PV}(slot:Slot "list" x id)(hty:typeOf (.builtin id)=pure (.type "method_descriptor"))(op:O2 c d (fun v u=>call (.builtin id) [v,u]) f)(S:Snd c C d sc V o a)(S':Snd c C d sc V e b)(hp:QB e=true)(he:JN o x apos pos [e]):
  Snd c C d sc V (.Call (.Attribute o x apos) [e] [] pos) (TU Jo f a b):=fun{A s env m σ σ' ρ p} O AK R F h=>by
 refine q0 ?_;intro Q;obtain⟨q,σ₁,r,σ₂,e1,hk,e2,e3⟩:=PO h
 obtain⟨pl,he⟩:=he env
 refine methodCall_KW (kws:=[]) (S.one O AK R F e1 fun m₁ v s₁ x1 y1=>M7 slot hty x1.rep hk y1 ?_) he
 refine Pa (es:=[e]) (by simp[hp]) (by simp) (JJ.one1 S' hp O AK x1.rep (x1.frm R F) e2 fun m₂ u s₂ x2 y2=>?_)
 exact Qy (op AK x2.rep (x2.val x1.rep y1) y2 e3) fun Z Z y=>.of (x1.trans x2) y
theorem SE {o:PySem.Expr}{x:Str}{id:String}{apos pos:Pos}{a:EX}{f:PV→H→R PV}(slot:Slot "list" x id)(hty:typeOf (.builtin id)=pure (.type "method_descriptor"))(op:O1 c d (fun v=>call (.builtin id) [v]) f)(hf:∀p h r,f p h=some r→Jo p h=true)(S:Snd c C d sc V o a)(he:JN o x apos pos []):
  Snd c C d sc V (.Call (.Attribute o x apos) [] [] pos) (op1 f a):=fun{A s env m σ σ' ρ p} O AK R F h=>by
 obtain⟨q,σ₁,e1,e2⟩:=JP h
 obtain⟨pl,he⟩:=he env
 refine methodCall_KW (kws:=[]) (S.one O AK R F e1 fun m₁ v s₁ x1 y1=>M7 slot hty x1.rep (hf _ _ _ e2) y1 ?_) he
 exact callWith_method0 (Qy (op AK x1.rep y1 e2) fun Z Z y=>.of x1 y)
theorem HJ {o e e':PySem.Expr}{x:Str}{id:String}{apos pos:Pos}{a b b':EX}{f:PV→PV→PV→H→R PV}(slot:Slot "dict" x id)(hty:typeOf (.builtin id)=pure (.type "method_descriptor"))(op:O3 c d (fun v u w=>call (.builtin id) [v,u,w]) f)(S:Snd c C d sc V o a)(S':Snd c C d sc V e b)(S'':Snd c C d sc V e' b')(hp:QB e=true)(hp':QB e'=true)(he:JN o x apos pos [e,e']):
  Snd c C d sc V (.Call (.Attribute o x apos) [e,e'] [] pos) (Tr JU f a b b'):=fun{A s env m σ σ' ρ p} O AK R F h=>by
 refine q0 ?_;intro Q;obtain⟨q,σ₁,r,σ₂,t,σ₃,e1,hk,e2,e3,e4⟩:=Lp h
 obtain⟨pl,he⟩:=he env
 refine methodCall_KW (kws:=[]) (S.one O AK R F e1 fun m₁ v s₁ x1 y1=>Lr slot hty x1.rep hk y1 ?_) he
 refine Pa (es:=[e,e']) (by simp[hp,hp']) (by simp) (JJ.two2 S' S'' hp hp' O AK x1.rep (x1.frm R F) e2 e3 fun m₂ u w s₂ x2 y2 y3=>?_)
 exact Qy (op AK x2.rep (x2.val x1.rep y1) y2 y3 e4) fun Z Z y=>.of (x1.trans x2) y
theorem SW:∀(p:PV) (h:H) (r:PV×H),RH p h=some r→Jo p h=true:=fun p h r e=>
 lstK_some (G:=fun p=>Jo p h=true) e fun m l e Z=>by show Option.isSome (JO h (.loc m) _)=true;rw[Yj e];rfl
theorem Br (h:Heap)(vs:List Value)(a:Array Value)(e:a=vs.toArray):Zo (h.push {cls:=.type "list",data:=.seq a}) h.objs.size vs:=e▸OA h vs
theorem QaG {env:Env}{k:Nat}{p1 p2:Pos}{Q:Value→Shared→Prop}{E:Value→Shared→Prop}(q:∀t t',Q (.int (-1) t) {s with toks:=t'}):wpAny (model c.prog c.w) A (eval (.UnaryOp .USub (.Constant (.int 1) k p1) p2) env) Q E s:=
 UnaryOp_ (wpAny_Constant_int (PyProof.Rows.neg_int (q _ _)))
theorem Xl {env:Env}{k:Nat}{p1 p2:Pos}{Q:Value→Shared→Prop}{E:Value→Shared→Prop}(q:∀t t',Q (.int (-1) t) {s with toks:=t'}):wpAny (model c.prog c.w) A (evalPart (some (.UnaryOp .USub (.Constant (.int 1) k p1) p2)) env) Q E s:=by
 simp only[evalPart_some];exact QaG q
theorem Cn {env:Env}{k:Nat}{p1:Pos}{Q:Value→Shared→Prop}{E:Value→Shared→Prop}(q:Q (.int 0 s.toks) {s with toks:=s.toks+1}):wpAny (model c.prog c.w) A (evalPart (some (.Constant (.int 0) k p1)) env) Q E s:=by
 simp only[evalPart_some];exact wpAny_Constant_int q
theorem QD.rev {N:Nat}{h:Heap}{ps:List PV}{vs:List Value}(x:QD c m N h ps vs):QD c m N h ps.reverse vs.reverse:=by
 induction ps generalizing vs with
 |nil=>cases x;exact rfl
 |cons p ps ih=>
  obtain⟨v,r,rfl,hv,hr⟩:=x
  simp only[List.reverse_cons,List.reverse_cons]
  exact(ih hr).snoc hv
theorem Rx {value:PySem.Expr}{k:Nat}{p p1 p2 pos:Pos}{a:EX}(S:Snd c C d sc V value a):Snd c C d sc V (.Subscript value (.Slice none none (some (.UnaryOp .USub (.Constant (.int 1) k p1) p2)) p) pos) (Co a):=fun{A s env m σ σ' ρ p} O AK R F h=>by
 obtain⟨q,σ₁,e1,e2⟩:=JP h
 clear h;refine Subscript_ (S.one O AK R F e1 fun m₁ v s₁ x1 y1=>vL x1.rep e2 y1 fun j l vs e2 el hx hv=>wpAny_Slice (wpAny_pure (wpAny_pure (Xl fun t t'=>?_))))
 obtain⟨hk,rfl,rfl⟩:=Jt e2
 have hl':=hx.is
 simp only[List.length_reverse]at hk
 refine tail_any (T:="list") (hl'.push _).typeIs slot_list_getitem.lookup ?_ rfl
 refine wpAny_getItem_list_slice (lo:=none) (hi:=none) (st:=some (-1)) (hl'.push _) (Heap.IsSliceOf.new _ _ _ _) .none .none (.int _ _) (by decide) ?_ (O8 hv hk)
 exact .of x1 (.newL (t:=t') (vs:=vs.reverse) x1.rep (fun b o e=>Heap.get?_push_of_some _ (Heap.get?_push_of_some _ e)) (Heap.get?_none_of_le (by simp)) (Br _ _ _ (by rw[krv_pick])) hv.rev)
theorem Dn {value:PySem.Expr}{k k':Nat}{p p0 p1 p2 pos:Pos}{a:EX}(S:Snd c C d sc V value a):Snd c C d sc V (.Subscript value (.Slice none (some (.Constant (.int 0) k' p0)) (some (.UnaryOp .USub (.Constant (.int 1) k p1) p2)) p) pos) (Bc a):=fun{A s env m σ σ' ρ p} O AK R F h=>by
 obtain⟨q,σ₁,e1,e2⟩:=JP h
 clear h;refine Subscript_ (S.one O AK R F e1 fun m₁ v s₁ x1 y1=>vL x1.rep e2 y1 fun j l vs e2 el hx hv=>wpAny_Slice (wpAny_pure (Cn (Xl fun t t'=>?_))))
 obtain⟨k,e2⟩:=Q1 e2
 obtain⟨hk,rfl,rfl⟩:=Jt e2
 have hl':=hx.is
 clear hx;obtain⟨u,rfl⟩:=List.length_eq_one_iff.mp (hv.length.trans (beq_iff_eq.mp k))
 refine tail_any (T:="list") (hl'.push _).typeIs slot_list_getitem.lookup ?_ rfl
 refine wpAny_getItem_list_slice (lo:=none) (hi:=some 0) (st:=some (-1)) (hl'.push _) (Heap.IsSliceOf.new _ _ _ _) .none (.int _ _) (.int _ _) (by decide) ?_ (Nat.le_trans (by decide:1≤20000) JQ)
 exact .of x1 (.newL (t:=t') (vs:=[]) x1.rep (fun b o e=>Heap.get?_push_of_some _ (Heap.get?_push_of_some _ e)) (Heap.get?_none_of_le (by simp)) (Br _ _ _ (by rfl)) rfl)
end
end Mine.Tactic
namespace Mine.Tactic
def WF (env:Env)(b:Addr):Prop:=b=env.locals∨∃x,env.cells.lookup x=some b
def Bz (o:Obj):Prop:=(∃es ep,o.data=.dict es ep)∨∃v,o.data=.cell v
theorem Bz.no_inst {o:Obj}(x:Bz o)(C d:Addr):o≠instObj C d:=fun e=>by
 subst e
 rcases x with ⟨_,_,e⟩|⟨_,e⟩<;>cases e
theorem Bz.no_tup {o:Obj}(x:Bz o){its:Array Value}{n:Nat}:o.data≠.seq its n:=fun e=>by
 rcases x with ⟨_,_,e'⟩|⟨_,e'⟩<;>(rw[e]at e';cases e')
section
variable {c:Cx} {C:CT} {d:Nat} {sc:Scope} {V:Vw} {m m₁ m₂:Mp} {σ σ₁ σ₂:H} {s s₁ s₂:Shared} {W:Addr→Prop} {env:Env} {ρ:Lc} {A:Around}
theorem Vf {h:Heap}{a:Addr}{f g:Str→Option Value}(x:h.Ns a f)(y:h.Ns a g):f=g:=by
 obtain⟨o,es,ep,e,hd,_,hf⟩:=x
 obtain⟨o',es',ep',e',hd',_,hg⟩:=y
 rw[e]at e';cases e'
 rw[hd]at hd';cases hd'
 exact funext fun z=>(hf z).symm.trans (hg z)
theorem BH {h:Heap}{a:Addr}{f:Str→Option Value}(x:h.Ns a f):∃o,h.get? a=some o∧Bz o:=by obtain⟨o,es,ep,e,hd,_⟩:=x;exact⟨o,e,.inl ⟨es,ep,hd⟩⟩
theorem B2 {h:Heap}{a:Addr}{v:Option Value}(x:h.IsCell a v):∃o,h.get? a=some o∧Bz o:=by obtain⟨o,e,hd⟩:=x;exact⟨o,e,.inr ⟨v,hd⟩⟩
theorem Stp.frame {h h':Heap}{a:Addr}{o o':Obj}(R:Rep c m σ h)(hs:Heap.SameBut a h h')(off:∀l,l<σ.length→m.μ l≠a)(hg:c.g.get? a=none)(ho:h.get? a=some o)(hd:Bz o)(ho':h'.get? a=some o')(hW:W a):Stp c W m σ h m σ h':=by
 have ht:YD h h':=fun b its t=>by
  obtain⟨o2,e,hc,n,hd2⟩:=id t
  refine⟨o2,(hs.2 b fun q=>?_).trans e,hc,n,hd2⟩
  clear hc;rw[q,ho]at e;cases e;exact hd.no_tup hd2
 have offp:∀l,l<σ.length→m.φ l≠a:=fun l hl q=>by
  obtain⟨o2,_,x⟩:=R.there hl
  rcases x.phi with e|⟨C',d',e⟩
  ·exact off l hl (e▸q)
  ·rw[q,ho]at e;clear ho;cases e;exact hd.no_inst _ _ rfl
 refine⟨⟨fun b o e=>(hs.2 b fun q=>by simp only[q,hg]at e;cases e).trans (R.base b o e),fun l o e=>?_,R.new,R.inj⟩,Nat.le_refl _,Mp.Ext.refl _ _,fun l a b=>by exact o35 b a,fun b o e n w=>(hs.2 b fun q=>w (q▸hW)).trans e,fun b o e=>?_⟩
 ·have hl:=Qc e
  exact(R.obj l o e).keep ht (Mp.Ext.refl _ _) (Nat.le_refl _) hl (fun o e=>(hs.2 _ (off l hl)).trans e) (fun o e=>(hs.2 _ (offp l hl)).trans e)
 ·by_cases q:b=a
  ·exact⟨o',q▸ho'⟩
  ·exact⟨o,(hs.2 b q).trans e⟩
theorem Z8 {i j:Nat}{p:PV}:Ya (QW ρ i p) j=if j=i then(if i<ρ.length then p else .unb)else Ya ρ j:=by
 delta Ya QW
 by_cases q:j=i
 ·subst q
  rw[if_pos rfl]
  by_cases h:j<ρ.length
  ·rw[if_pos h,List.getElem?_set_self h]
  ·rw[if_neg h,List.getElem?_eq_none (by simpa using h)]
 ·rw[if_neg q,List.getElem?_set_ne (Ne.symm q)]
theorem WF.no_tup (F:Frm c m σ s.heap V env ρ):∀b its,WF env b→¬s.heap.IsTuple b its:=fun b its w t=>by
 obtain⟨o,e,_,n,hd⟩:=t
 rcases w with rfl|⟨x,hx⟩
 ·obtain⟨mm,hn⟩:=F.ns
  obtain⟨o',e',fd⟩:=BH hn
  rw[e]at e';cases e';exact fd.no_tup hd
 ·obtain⟨ov,ic⟩:=F.isC x b hx
  obtain⟨o',e',fd⟩:=B2 ic
  rewrite [e]at e';cases e';exact fd.no_tup hd
def WX (env:Env)(x:Str)(b:Addr):Prop:=(env.kindOf x=some .local∧b=env.locals)∨(env.kindOf x=some .cell∧env.cells.lookup x=some b)
theorem W4 {i:Nat}{x:Str}{p:PV}{v:Value}(hx:∀b,WX env x b→W b)(hw:∀b,W b→WF env b)(O:Ym c sc V env)(R:Rep c m σ s.heap)(F:Frm c m σ s.heap V env ρ)(hv:(i,x)∈V)(hnf:env.kindOf x≠some .free)(y:Val c m σ.length s.heap p v):
  wpAny (model c.prog c.w) A (storeName env x v) (fun Z=>Yg c m σ s (fun m' σ' h'=>Frm c m' σ' h' V env (QW ρ i p)) W σ) (fun Z Z=>False) s:=by
 refine q1 i ?_;intro Q;have kf:=O.kind
 rw[←O.scp]at kf
 rcases F.var i x hv with ⟨k,mm,hn,_⟩|⟨k,a,ov,el,ic,_⟩
 ·refine wpAny_storeName_local k hn (fun h' hn' hs=>?_) (by rw[kf];rfl)
  obtain⟨o,e,fd⟩:=BH hn
  obtain⟨o',e',_⟩:=BH hn'
  have S:Stp c W m σ s.heap m σ h':=.frame R hs F.offL O.newL e fd e' (hx _ (.inl ⟨k,rfl⟩))
  have ht:=S.tup R fun b its w=>WF.no_tup F b its (hw b w)
  refine⟨m,h',s.toks+1,rfl,S,⟨_,hn'⟩,fun j z hz=>?_,F.offL,F.offC,fun z a ez=>?_⟩
  ·rw[Z8]
   by_cases q:j=i
   ·subst q
    have:=O.fst j x z hv hz
    clear hz;subst this
    rw[if_pos rfl]
    refine .inl ⟨k,_,hn',fun nu=>⟨v,by simp,?_⟩⟩
    split
    ·exact y.mono ht (Mp.Ext.refl _ _) (Nat.le_refl _)
    ·rename_i q;rw[if_neg q]at nu;exact absurd rfl nu
   ·rw[if_neg q]
    have zx:z≠x:=fun e=>q (O.once j i x (e▸hz) hv)
    rcases F.var j z hz with ⟨k',mm',hn2,b⟩|⟨k',a,ov,el,ic,b⟩
    ·refine .inl ⟨k',_,hn',fun nu=>?_⟩
     clear hn';obtain⟨u,h1,h2⟩:=b nu
     have:=Vf hn2 hn
     clear hn;subst this
     exact⟨u,by rw[if_neg zx];exact h1,h2.mono ht (Mp.Ext.refl _ _) (Nat.le_refl _)⟩
    ·refine .inr ⟨k',a,ov,el,ic.sameBut hs (O.cells z a el).2,fun nu=>?_⟩
     obtain⟨u,h1,h2⟩:=b nu
     exact⟨u,h1,h2.mono ht (Mp.Ext.refl _ _) (Nat.le_refl _)⟩
  ·obtain⟨ov,ic⟩:=F.isC z a ez
   exact⟨ov,ic.sameBut hs (O.cells z a ez).2⟩
 ·rcases k with k|k
  ·refine wpAny_storeName_cell kf k el ic fun h' ic' hs=>?_
   obtain⟨o,e,fd⟩:=B2 ic
   obtain⟨o',e',_⟩:=B2 ic'
   have S:Stp c W m σ s.heap m σ h':=.frame R hs (F.offC x a el) (O.cells x a el).1 e fd e' (hx _ (.inr ⟨k,el⟩))
   have ht:=S.tup R fun b its w=>WF.no_tup F b its (hw b w)
   obtain⟨mm,hn⟩:=F.ns
   have hn':h'.Ns env.locals mm:=hn.sameBut hs (Ne.symm (O.cells x a el).2)
   refine⟨m,h',s.toks,rfl,S,⟨_,hn'⟩,fun j z hz=>?_,F.offL,F.offC,fun z b ez=>?_⟩
   ·rw[Z8]
    by_cases q:j=i
    ·subst q
     have:=O.fst j x z hv hz
     clear hz;subst this
     rw[if_pos rfl]
     refine .inr ⟨.inl k,a,_,el,ic',fun nu=>⟨v,rfl,?_⟩⟩
     split
     ·exact y.mono ht (Mp.Ext.refl _ _) (Nat.le_refl _)
     ·rename_i q;rw[if_neg q]at nu;exact absurd rfl nu
    ·rw[if_neg q]
     have zx:z≠x:=fun e=>q (O.once j i x (e▸hz) hv)
     rcases F.var j z hz with ⟨k',mm',hn2,b⟩|⟨k',a',ov',el',icz,b⟩
     ·refine .inl ⟨k',mm',hn2.sameBut hs (Ne.symm (O.cells x a el).2),fun nu=>?_⟩
      obtain⟨u,h1,h2⟩:=b nu
      exact⟨u,h1,h2.mono ht (Mp.Ext.refl _ _) (Nat.le_refl _)⟩
     ·have na:a'≠a:=fun e=>zx (O.inj z x a (e▸el') el)
      refine .inr ⟨k',a',ov',el',icz.sameBut hs na,fun nu=>?_⟩
      obtain⟨u,h1,h2⟩:=b nu
      exact⟨u,h1,h2.mono ht (Mp.Ext.refl _ _) (Nat.le_refl _)⟩
   ·by_cases q:b=a
    ·exact⟨_,q▸ic'⟩
    ·obtain⟨ov',icz⟩:=F.isC z b ez
     exact⟨ov',icz.sameBut hs q⟩
  ·exact absurd k hnf
theorem WX.wf {x:Str}{b:Addr}(w:WX env x b):WF env b:=by
 rcases w with ⟨_,e⟩|⟨_,e⟩
 ·exact .inl e
 ·exact .inr ⟨x,e⟩
theorem BS {i:Nat}{x:Str}{p:PV}{v:Value}(O:Ym c sc V env)(R:Rep c m σ s.heap)(F:Frm c m σ s.heap V env ρ)(hv:(i,x)∈V)(hnf:env.kindOf x≠some .free)(y:Val c m σ.length s.heap p v):
 wpAny (model c.prog c.w) A (storeName env x v) (fun Z=>Yg c m σ s (fun m' σ' h'=>Frm c m' σ' h' V env (QW ρ i p)) (WF env) σ) (fun Z Z=>False) s:=W4 (fun Z w=>w.wf) (fun Z w=>w) O R F hv hnf y
end
end Mine.Tactic
namespace Mine.Tactic
section
variable {c:Cx} {C:CT} {d:Nat} {sc:Scope} {V:Vw} {m m₁ m₂:Mp} {σ σ₁ σ₂:H} {s s₁ s₂:Shared} {W:Addr→Prop} {env:Env} {ρ:Lc} {A:Around}
def Oy (o:Obj):Prop:=(∀C d,o≠instObj C d)∧∀its n,o.cls=.type "tuple"→o.data≠.seq its n
theorem Bz.alien {o:Obj}(x:Bz o):Oy o:=⟨x.no_inst,fun Z Z Z=>x.no_tup⟩
theorem Stp.other {h h':Heap}{a:Addr}{o o':Obj}(R:Rep c m σ h)(hs:Heap.SameBut a h h')(off:∀l,l<σ.length→m.μ l≠a)(hg:c.g.get? a=none)(ho:h.get? a=some o)(hd:Oy o)(ho':h'.get? a=some o')(hW:W a):Stp c W m σ h m σ h'∧YD h h':=by
 have ht:YD h h':=fun b its t=>by
  obtain⟨o2,e,hc,n,hd2⟩:=id t
  refine⟨o2,(hs.2 b fun q=>?_).trans e,hc,n,hd2⟩
  rw[q,ho]at e;cases e;exact hd.2 _ _ hc hd2
 have offp:∀l,l<σ.length→m.φ l≠a:=fun l hl q=>by
  obtain⟨o2,_,x⟩:=R.there hl
  rcases x.phi with e|⟨C',d',e⟩
  ·exact off l hl (e▸q)
  ·rw[q,ho]at e;clear ho;cases e;exact hd.1 _ _ rfl
 refine⟨⟨⟨fun b o e=>(hs.2 b fun q=>by simp only[q,hg]at e;cases e).trans (R.base b o e),fun l o e=>?_,R.new,R.inj⟩,Nat.le_refl _,Mp.Ext.refl _ _,fun l a b=>by exact o35 b a,fun b o e n w=>(hs.2 b fun q=>w (q▸hW)).trans e,fun b o e=>?_⟩,ht⟩
 ·have hl:=Qc e
  exact(R.obj l o e).keep ht (Mp.Ext.refl _ _) (Nat.le_refl _) hl (fun o e=>(hs.2 _ (off l hl)).trans e) (fun o e=>(hs.2 _ (offp l hl)).trans e)
 ·by_cases q:b=a
  ·exact⟨o',q▸ho'⟩
  ·exact⟨o,(hs.2 b q).trans e⟩
theorem Stp.fin {W':Addr→Prop}{h h₁ h':Heap}{a:Addr}{o:Obj}(x:Stp c W' m σ h m₁ σ₁ h₁)(h0:h.get? a=none)(hw:∀b,W' b→W b∨b=a)(ho:h₁.get? a=some o)(hd:Oy o)(off:∀l,l<σ₁.length→m₁.μ l≠a)(hg:c.g.get? a=none)(he:Heap.ExtBut a h₁ h'):Stp c W m σ h m₁ σ₁ h'∧YD h₁ h':=by
 have R:=x.rep
 have ht:YD h₁ h':=fun b its t=>by
  obtain⟨o2,e,hc,n,hd2⟩:=id t
  refine⟨o2,he b _ (fun q=>?_) e,hc,n,hd2⟩
  rw[q,ho]at e;cases e;exact hd.2 _ _ hc hd2
 have offp:∀l,l<σ₁.length→m₁.φ l≠a:=fun l hl q=>by
  obtain⟨o2,_,y⟩:=R.there hl
  rcases y.phi with e|⟨C',d',e⟩
  ·exact off l hl (e▸q)
  ·rw[q,ho]at e;clear ho;cases e;exact hd.1 _ _ rfl
 have ne:∀b o,h.get? b=some o→b≠a:=fun b o e q=>by rw[q,h0]at e;cases e
 refine⟨⟨⟨fun b o e=>he b _ (fun q=>by rw[q,hg]at e;cases e) (R.base b o e),fun l o e=>?_,R.new,R.inj⟩,x.len,x.ext,x.fresh,fun b o e n w=>?_,fun b o e=>?_⟩,ht⟩
 ·have hl:=Qc e
  exact(R.obj l o e).keep ht (Mp.Ext.refl _ _) (Nat.le_refl _) hl (fun o e=>he _ _ (off l hl) e) (fun o e=>he _ _ (offp l hl) e)
 ·exact he b _ (ne b o e) (x.keep b o e n fun z=>(hw b z).elim w (ne b o e))
 ·obtain⟨o',e'⟩:=x.stay b o e
  exact⟨o',he b _ (ne b o e) e'⟩
theorem Frm.stpW {h h':Heap}(F:Frm c m σ h V env ρ)(x:Stp c W m σ h m₁ σ₁ h')(t:YD h h')(w1:¬W env.locals)(w2:∀x a,env.cells.lookup x=some a→¬W a):Frm c m₁ σ₁ h' V env ρ:=by
 have off:∀b o,(∀l,l<σ.length→m.μ l≠b)→h.get? b=some o→∀l,l<σ₁.length→m₁.μ l≠b:=fun b o n lt l hl=>by
  rcases Nat.lt_or_ge l σ.length with q|q
  ·rw[(x.ext l q).2];exact n l q
  ·have:=x.fresh l q hl;exact fun z=>by rw[z,lt]at this;cases this
 obtain⟨mm,hn⟩:=F.ns
 obtain⟨oL,es,ep,hL,r⟩:=id hn
 refine⟨⟨mm,oL,es,ep,x.keep _ _ hL F.offL w1,r⟩,fun i y hy=>(F.var i y hy).mono t x.ext x.len (fun o e=>x.keep _ _ e F.offL w1) (fun a o e ho=>x.keep _ _ ho (F.offC y a e) (w2 y a e)),off _ _ F.offL hL,fun y a e=>?_,fun y a e=>?_⟩
 ·obtain⟨ov,o,ho,_⟩:=F.isC y a e
  exact off a o (F.offC y a e) ho
 ·obtain⟨ov,o,ho,hd⟩:=F.isC y a e
  exact⟨ov,o,x.keep _ _ ho (F.offC y a e) (w2 y a e),hd⟩
inductive Zd (c:Cx) (m:Mp) (N:Nat) (h:Heap) (it:Addr):Src→Nat→Prop
 |lst (l i:Nat):l<N→h.IsListIter it (m.μ l) i→Zd c m N h it (.lst l) i
 |tup (ps:List PV) (i:Nat) (a:Addr) (vs:List Value):h.IsTupleIter it a i→h.IsTuple a vs.toArray→QD c m N h ps vs→Zd c m N h it (.tup ps) i
 |rng (a:Int) (n i:Nat):IsRangeIter h it (a+i) (n - i) 1→i≤n→Zd c m N h it (.rng a n) i
theorem Zd.obj {N:Nat}{h:Heap}{it:Addr}{src:Src}{i:Nat}(x:Zd c m N h it src i):∃o,h.get? it=some o∧Oy o:=by
 cases x with
 |lst l i hl hit=>
  obtain⟨o,e,hc,hd⟩:=hit
  clear hd;refine⟨o,e,⟨fun C d q=>?_,fun Z Z q=>?_⟩⟩
  clear e;· subst q;cases hc
  ·rw[q]at hc;simp at hc
 |tup ps i a vs hit ht hv=>
  obtain⟨o,e,hc,hd⟩:=hit
  clear hd;refine⟨o,e,⟨fun C d q=>?_,fun Z Z q=>?_⟩⟩
  clear e;· subst q;cases hc
  ·rw[q]at hc;simp at hc
 |rng a n i hit hi=>
  refine⟨_,hit,⟨fun C d q=>?_,fun Z Z q=>?_⟩⟩
  ·cases q
  ·simp at q
theorem Zd.keep {N N':Nat}{h h':Heap}{it:Addr}{src:Src}{i:Nat}(x:Zd c m N h it src i)(k:∀o,h.get? it=some o→h'.get? it=some o)(t:YD h h')(e:m.Ext m₁ N)(n:N≤N'):Zd c m₁ N' h' it src i:=by
 cases x with
 |lst l i hl hit=>obtain⟨o,e',hc,hd⟩:=hit;exact .lst l i (Nat.lt_of_lt_of_le hl n) ⟨o,k _ e',hc,by rw[(e l hl).2];exact hd⟩
 |tup ps i a vs hit ht hv=>obtain⟨o,e',hc,hd⟩:=hit;exact .tup ps i a vs ⟨o,k _ e',hc,hd⟩ (t _ _ ht) (hv.mono t e n)
 |rng a nn i hit hi=>exact .rng a nn i (k _ hit) hi
theorem Zd.again {N:Nat}{it:Addr}{src:Src}{i:Nat}(x:Zd c m N s.heap it src i){Q:Value→Shared→Prop}{E:Value→Shared→Prop}(q:Q (.ref it) s):wpAny (model c.prog c.w) A (pyIter (.ref it)) Q E s:=by
 cases x with
 |lst l i hl hit=>exact wpAny_pyIter_listiter hit q
 |tup ps i a vs hit ht hv=>exact wpAny_pyIter_tupleiter hit q
 |rng a n i hit hi=>exact wpAny_pyIter_rangeiter hit q
structure Wk (c:Cx) (W:Addr→Prop) (m:Mp) (σ:H) (h:Heap) (m₁:Mp) (σ₁:H) (h₁:Heap) (it:Addr):Prop where
 stp:Stp c (fun b=>W b∨b=it) m σ h m₁ σ₁ h₁
 new:h.get? it=none
 off:∀l,l<σ₁.length→m₁.μ l≠it
theorem Wk.base {h h₁:Heap}{it:Addr}(x:Wk c W m σ h m₁ σ₁ h₁ it)(R:Rep c m σ h):c.g.get? it=none:=by
 cases z:c.g.get? it with
 |none=>rfl
 |some o=>have:=x.new;rw[R.base _ _ z]at this;cases this
theorem Wk.step {h h₁ h₂:Heap}{it:Addr}(x:Wk c W m σ h m₁ σ₁ h₁ it)(y:Stp c W m₁ σ₁ h₁ m₂ σ₂ h₂)(hit:∃o,h₁.get? it=some o):Wk c W m σ h m₂ σ₂ h₂ it:=by
 obtain⟨o,ho⟩:=hit
 refine⟨x.stp.trans (y.weak fun b w=>.inl w),x.new,fun l hl q=>?_⟩
 rcases Nat.lt_or_ge l σ₁.length with z|z
 ·exact x.off l z ((y.ext l z).2.symm.trans q)
 ·have:=y.fresh l z hl;rw[q,ho]at this;cases this
theorem Wq {h h₁ h₂:Heap}{it:Addr}{src:Src}{i:Nat}(x:Wk c W m σ h m₁ σ₁ h₁ it)(y:Stp c W m₁ σ₁ h₁ m₂ σ₂ h₂)(t:YD h₁ h₂)(hW:¬W it)(I:Zd c m₁ σ₁.length h₁ it src i):Zd c m₂ σ₂.length h₂ it src i:=
 I.keep (fun o e=>y.keep it o e x.off hW) t y.ext y.len
def NxP (c:Cx)(W:Addr→Prop)(m:Mp)(σ:H)(h0:Heap)(m₁:Mp)(σ₁:H)(s:Shared)(it:Addr)(src:Src)(i:Nat):Option PV→Option Value→Shared→Prop
 |some p,r',s'=>∃h' t v,s'={s with heap:=h',toks:=t}∧r'=some v∧Val c m₁ σ₁.length h' p v∧Wk c W m σ h0 m₁ σ₁ h' it∧Stp c (·=it) m₁ σ₁ s.heap m₁ σ₁ h'∧YD s.heap h'∧Zd c m₁ σ₁.length h' it src (i+1)
 |none,r',s'=>∃h',s'={s with heap:=h'}∧r'=none∧Stp c W m σ h0 m₁ σ₁ h'∧YD s.heap h'∧∀b o,b≠it→s.heap.get? b=some o→h'.get? b=some o
theorem NxP.one {c:Cx}{W:Addr→Prop}{m m₁:Mp}{σ σ₁:H}{h0:Heap}{s s':Shared}{it:Addr}{src:Src}{i:Nat}{p:PV}{r:Option Value}{G:Option Value→Prop}(z:NxP c W m σ h0 m₁ σ₁ s it src i (some p) r s')
  (k:∀v,Upd s s'→Val c m₁ σ₁.length s'.heap p v→Wk c W m σ h0 m₁ σ₁ s'.heap it→Stp c (·=it) m₁ σ₁ s.heap m₁ σ₁ s'.heap→YD s.heap s'.heap→Zd c m₁ σ₁.length s'.heap it src (i+1)→G (some v)):G r:=by
 obtain⟨h',t,v,rfl,rfl,a,b,d,e,f⟩:=z
 exact k v ⟨_,_,rfl⟩ a b d e f
theorem NxP.nil {c:Cx}{W:Addr→Prop}{m m₁:Mp}{σ σ₁:H}{h0:Heap}{s s':Shared}{it:Addr}{src:Src}{i:Nat}{r:Option Value}{G:Option Value→Prop}(z:NxP c W m σ h0 m₁ σ₁ s it src i none r s')
  (k:Upd s s'→Stp c W m σ h0 m₁ σ₁ s'.heap→YD s.heap s'.heap→(∀b o,b≠it→s.heap.get? b=some o→s'.heap.get? b=some o)→G none):G r:=by
 obtain⟨h',rfl,rfl,a,b,d⟩:=z
 exact k ⟨_,_,rfl⟩ a b d
theorem ZQ {i:Nat}{src:Src}{r:Option PV}{it:Addr}(e:YQ σ₁ i src=some r)(AK:AOk d A)(R:Rep c m₁ σ₁ s.heap){h0:Heap}(x:Wk c W m σ h0 m₁ σ₁ s.heap it)(R0:Rep c m σ h0)(hW:¬W it)(I:Zd c m₁ σ₁.length s.heap it src i):
  wpAny (model c.prog c.w) A (pyNext (.ref it)) (NxP c W m σ h0 m₁ σ₁ s it src i r) (fun Z Z=>False) s:=by
 have hg:=x.base R0
 have hi0:=I.obj
 obtain⟨o,ho,al⟩:=hi0
 have item:∀{h':Heap} {t:Nat} {v:Value} {p:PV},Heap.SameBut it s.heap h'→Val c m₁ σ₁.length s.heap p v→(YD s.heap h'→Zd c m₁ σ₁.length h' it src (i+1))→r=some p→
   NxP c W m σ h0 m₁ σ₁ s it src i r (some v) {s with heap:=h',toks:=t}:=by
  clear e;intro h' t v p hs hv hI hr
  subst hr
  have al':=al
  have ht:YD s.heap h':=fun b its t=>by
   obtain⟨o2,e,hc,n,hd2⟩:=id t
   refine⟨o2,(hs.2 b fun q=>?_).trans e,hc,n,hd2⟩
   rw[q,ho]at e;cases e;exact al.2 _ _ hc hd2
  obtain⟨o',ho',_⟩:=(hI ht).obj
  have S:=(Stp.other (W:=(·=it)) R hs x.off hg ho al ho' rfl).1
  exact⟨h',t,v,rfl,rfl,hv.mono ht (Mp.Ext.refl _ _) (Nat.le_refl _),⟨x.stp.trans (S.weak fun b w=>.inr w),x.new,x.off⟩,S,ht,hI ht⟩
 have stop:∀{h':Heap},Heap.ExtBut it s.heap h'→r=none→
   NxP c W m σ h0 m₁ σ₁ s it src i r none {s with heap:=h'}:=by
  clear item e;intro h' he hr
  subst hr
  have:=x.stp.fin x.new (fun b w=>w) ho al x.off hg he
  exact⟨h',rfl,rfl,this.1,this.2,fun b o nb e=>he b o nb e⟩
 cases I with
 |lst l i hl hit=>
  obtain⟨ps,el,e⟩:=Zr e
  cases e
  obtain⟨_,vs,hx,hv⟩:=R.obj l _ el
  have hls:=hx.is
  cases hp:ps[i]? with
  |some p=>
   obtain⟨v,h1,h2⟩:=hv.get hp
   exact wpAny_pyNext_list_item hit hls (x:=v) (by simpa using h1) fun h' hit' hs=>(by have:=item (t:=s.toks) hs h2 (fun Z=>.lst l (i+1) hl hit') hp;simp only[hp]at this;exact this)
  |none=>
   have:=hv.none hp
   exact wpAny_pyNext_list_end AK.handled hit hls (by simpa using this) fun h' he=>(by have:=stop he hp;rw[hp]at this;exact this)
 |tup ps i a vs hit ht hv=>
  cases e
  cases hp:ps[i]? with
  |some p=>
   obtain⟨v,h1,h2⟩:=hv.get hp
   exact wpAny_pyNext_tuple_item hit ht (x:=v) (by simpa using h1) fun h' hit' hs=>(by have:=item (t:=s.toks) hs h2 (fun t=>.tup ps (i+1) a vs hit' (t _ _ ht) (hv.mono t (Mp.Ext.refl _ _) (Nat.le_refl _))) hp;simp only[hp]at this;exact this)
  |none=>
   have:=hv.none hp
   exact wpAny_pyNext_tuple_end AK.handled hit ht (by simpa using this) fun h' he=>(by have:=stop he hp;rw[hp]at this;exact this)
 |rng a n i hit hi=>
  refine q1 r ?_;intro Q;cases e
  by_cases hlt:i<n
  ·refine wpAny_pyNext_range_item hit (by exact o140 hlt) fun h' hit' hs=>item hs (p:=.int (a+i)) (by exact⟨_,rfl⟩) (fun Z=>.rng a n (i+1) ?_ hlt) (by rw[if_pos hlt])
   have e1:a+(i:Int)+1=a+((i+1:Nat):Int):=by push_cast;exact o141
   have e2:(n:Int) - i - 1=(n:Int) - ((i+1:Nat):Int):=by push_cast;exact o142
   simp only[←e1,←e2];exact hit'
  ·exact wpAny_pyNext_range_end AK.handled hit (by exact o143 hi hlt) fun h' he=>stop he (by rw[if_neg hlt])
end
end Mine.Tactic
namespace Mine.Tactic
def AZ (c:Cx)(m:Mp)(N:Nat)(h:Heap):Fl→Flow→Prop
 |.nxt,f=>f=.next
 |.cnt,f=>f=.cont
 |.ret p,f=>∃v,f=.ret v∧Val c m N h p v
def StP (c:Cx)(V:Vw)(env:Env)(m:Mp)(σ:H)(s:Shared)(fl:Fl)(ρ':Lc)(σ':H)(f:Flow)(s':Shared):Prop:=
 Yg c m σ s (fun m' σ' h'=>AZ c m' σ'.length h' fl f∧Frm c m' σ' h' V env ρ') (WF env) σ' s'
def Ja (c:Cx)(C:CT)(d:Nat)(sc:Scope)(V:Vw)(st:PySem.Stmt)(f:SX):Prop:=
 ∀⦃A:Around⦄ ⦃s:Shared⦄ ⦃env:Env⦄ ⦃m:Mp⦄ ⦃σ σ':H⦄ ⦃ρ ρ':Lc⦄ ⦃fl:Fl⦄,Ym c sc V env→AOk d A→Rep c m σ s.heap→Frm c m σ s.heap V env ρ→f C c.ns ρ σ=some ((fl,ρ'),σ')→
  wpAny (model c.prog c.w) A (exec st env) (StP c V env m σ s fl ρ' σ') (fun Z Z=>False) s
def WP (c:Cx)(C:CT)(d:Nat)(sc:Scope)(V:Vw)(sts:List PySem.Stmt)(f:SX):Prop:=
 ∀⦃A:Around⦄ ⦃s:Shared⦄ ⦃env:Env⦄ ⦃m:Mp⦄ ⦃σ σ':H⦄ ⦃ρ ρ':Lc⦄ ⦃fl:Fl⦄,Ym c sc V env→AOk d A→Rep c m σ s.heap→Frm c m σ s.heap V env ρ→f C c.ns ρ σ=some ((fl,ρ'),σ')→
  wpAny (model c.prog c.w) A (execs sts env) (StP c V env m σ s fl ρ' σ') (fun Z Z=>False) s
def WE (c:Cx)(C:CT)(d:Nat)(sc:Scope)(V:Vw)(iter:PySem.Expr)(f:IX):Prop:=
 ∀⦃A:Around⦄ ⦃s:Shared⦄ ⦃env:Env⦄ ⦃m:Mp⦄ ⦃σ σ':H⦄ ⦃ρ:Lc⦄ ⦃src:Src⦄,Ym c sc V env→AOk d A→Rep c m σ s.heap→Frm c m σ s.heap V env ρ→f C c.ns ρ σ=some (src,σ')→
  wpAny (model c.prog c.w) A (eval iter env) (fun x s₁=>wpAny (model c.prog c.w) A (pyIter x) (fun it s₂=>∃a m',it=.ref a∧Aft c W0 m σ s m' σ' s₂∧s.heap.get? a=none∧(∀l,l<σ'.length→m'.μ l≠a)∧Zd c m' σ'.length s₂.heap a src 0) (fun Z Z=>False) s₁) (fun Z Z=>False) s
section
variable {c:Cx} {C:CT} {d:Nat} {sc:Scope} {V:Vw} {m m₁ m₂:Mp} {σ σ₁ σ₂:H} {s s₁ s₂:Shared} {W:Addr→Prop} {env:Env} {ρ ρ':Lc} {A:Around}
theorem Aft.push (R:Rep c m σ s.heap)(o:Obj):Aft c W0 m σ s m σ {s with heap:=s.heap.push o}:=⟨_,s.toks,rfl,.grow R (YW _ _)⟩
theorem Bf (x:Aft c W m σ s m₁ σ₁ s₁):s.heap.get? s₁.heap.objs.size=none:=by
 cases e:s.heap.get? s₁.heap.objs.size with
 |none=>rfl
 |some o=>obtain⟨o',e'⟩:=x.stp.stay _ _ e;exact absurd (Heap.lt_size e') (Nat.lt_irrefl _)
theorem Bj (R:Rep c m σ s.heap):∀l,l<σ.length→m.μ l≠s.heap.objs.size:=fun l hl q=>by
 obtain⟨o,e,_⟩:=R.mut hl
 have:=Heap.lt_size e
 rw[q]at this;exact Nat.lt_irrefl _ this
theorem GU {e:PySem.Expr}{a:EX}(S:Snd c C d sc V e a):WE c C d sc V e (QO a):=fun{A s env m σ σ' ρ src} O AK R F h=>by
 obtain⟨q,σ₁,e1,e2⟩:=Qh h
 refine S.one O AK R F e1 fun m₁ v s₁ x1 y1=>?_
 refine Yf e2 (fun e=>?_) fun e=>?_
 ·refine vT e y1 fun l b vs e ht hv=>pS e ?_
  exact wpAny_pyIter_tuple ht ⟨_,m₁,rfl,x1.trans (.push x1.rep _),Bf x1,Bj x1.rep,.tup _ 0 b vs ⟨_,Heap.get?_push_size _ rfl,rfl,rfl⟩ (ht.push _) (hv.grow (YW _ _))⟩
 ·refine vL x1.rep e y1 fun l ps vs e el hl hv=>pS e ?_
  exact wpAny_pyIter_list hl.is ⟨_,m₁,rfl,x1.trans (.push x1.rep _),Bf x1,Bj x1.rep,.lst _ 0 (Qc el) ⟨_,Heap.get?_push_size _ rfl,rfl,rfl⟩⟩
theorem Gh {a b:Int}{src:Src}(h:ZH a b σ=some (src,σ₁)):Yt a=true∧Yt b=true∧src=.rng a (b - a).toNat∧σ₁=σ:=by
 unfold ZH at h
 obtain⟨k,h⟩:=itS h
 cases h;obtain⟨h1,h2⟩:=Bool.and_eq_true_iff.mp k;exact⟨h1,h2,rfl,rfl⟩
theorem Xg {x:Int}(p:-(2 ^ 63)≤x)(q:x<2 ^ 63):Builtin.Range.rangeFitsLong x=true:=by
 unfold Builtin.Range.rangeFitsLong
 simp only[Bool.and_eq_true,decide_eq_true_eq]
 exact o146 p q
theorem sm1 {x:Int}(h:Int.natAbs x<4611686018427387904):Builtin.Range.rangeFitsLong x=true:=Xg (abR h).1 (abR h).2
theorem sm2 {a b:Int}(h:Int.natAbs a<4611686018427387904)(h2:Int.natAbs b<4611686018427387904):Builtin.Range.rangeFitsLong ((b - a).toNat:Int)=true:=Xg (Int.le_trans (by decide) (Int.natCast_nonneg _)) (Int.lt_of_lt_of_le (Int.ofNat_lt.mpr ((Int.toNat_lt' (n:=9223372036854775808) (by decide)).mpr (Int.lt_of_lt_of_le (Int.add_lt_add (abU h2) (abU (x:=-a) (k:=4611686018427387904) (by rw[Int.natAbs_neg];exact h))) (by decide)))) (by decide))
theorem PT {a b:Int}(ha:Yt a=true)(hb:Yt b=true):Builtin.Range.small a b 1=true∧Builtin.Range.rangeSize a b 1=((b - a).toNat:Int):=by
 have h1:=of_decide_eq_true (show decide (Int.natAbs a<4611686018427387904)=true from ha)
 have h2:=of_decide_eq_true (show decide (Int.natAbs b<4611686018427387904)=true from hb)
 have e:Builtin.Range.rangeSize a b 1=((b - a).toNat:Int):=by
  rw[rangeSize_one]
  split
  ·rename_i h;exact(Int.toNat_of_nonneg (Int.sub_nonneg_of_le (Int.le_of_lt h))).symm
  ·rename_i h;rw[Int.toNat_of_nonpos (Int.sub_nonpos_of_le (Int.not_lt.mp h))];rfl
 refine⟨?_,e⟩
 unfold Builtin.Range.small
 rewrite [e,sm1 h1,sm1 h2,sm2 h1 h2,sm1 (x:=1) (by decide),sm1 (x:=b+(1 - 1)) (by rw[Int.sub_self,Int.add_zero];exact h2)]
 simp
theorem DA {a b:Int}{t u v:Tok}{r:Addr}(R:Rep c m σ s.heap)(ha:Yt a=true)(hb:Yt b=true)(hr:IsRange s.heap r a b 1 t u v):
  wpAny (model c.prog c.w) A (pyIter (.ref r)) (fun it s₂=>∃x m',it=.ref x∧Aft c W0 m σ s m' σ s₂∧x=s.heap.objs.size∧(∀l,l<σ.length→m'.μ l≠x)∧Zd c m' σ.length s₂.heap x (.rng a (b - a).toNat) 0) (fun Z Z=>False) s:=by
 obtain⟨h1,h2⟩:=PT ha hb
 refine wpAny_pyIter_range hr h1 ⟨_,m,rfl,.push R _,rfl,Bj R,.rng _ _ 0 ?_ (Nat.zero_le _)⟩
 have e:=Heap.get?_push_size s.heap (o:={cls:=.type "range_iterator",data:=.fields #[rawInt a,rawInt (Builtin.Range.rangeSize a b 1),rawInt 1]}) rfl
 rw[h2]at e ⊢
 simpa using e
theorem PK {e:PySem.Expr}{a:EX}{x:Str}{p pos:Pos}(G:Gd c)(hb:Jm c sc x (.type "range"))(S:Snd c C d sc V e a)(hp:QB e=true):WE c C d sc V (.Call (.Name x p) [e] [] pos) (QM a):=fun{A s env m σ σ' ρ src} O AK R F h=>by
 refine q1 src ?_;intro Q;obtain⟨q,σ₁,e1,e2⟩:=Qh h
 clear h;obtain⟨n,rfl,e2⟩:=G1 e2
 obtain⟨h1,h2,rfl,rfl⟩:=Gh e2
 refine Call_Name rfl (Zu G O R hb (HO (es:=[e]) (by simp[hp]) (by simp) (JJ.one1 S hp O AK R F e1 fun m₁ v s₁ x1 y1=>?_)))
 obtain⟨t,rfl⟩:=y1
 refine call_range_1 ?_
 have x2:Aft c W0 m₁ σ' s₁ m₁ σ' {s₁ with heap:=s₁.heap.push {cls:=.type "range",data:=.fields #[.int 0 s₁.toks,.int n t,.int 1 (s₁.toks+1)]},toks:=s₁.toks+1+1}:=⟨_,_,rfl,.grow x1.rep (YW _ _)⟩
 refine Qy (DA (s:={s₁ with heap:=s₁.heap.push {cls:=.type "range",data:=.fields #[.int 0 s₁.toks,.int n t,.int 1 (s₁.toks+1)]},toks:=s₁.toks+1+1}) x2.rep h1 h2 (Heap.get?_push_size _ rfl)) fun it s₂ z=>?_
 obtain⟨b,m',rfl,x3,e3,off,I⟩:=z
 refine⟨b,m',rfl,(x1.trans x2).trans x3,?_,off,I⟩
 simp only[e3];exact Bf (x1.trans x2)
theorem LH {e e':PySem.Expr}{a b:EX}{x:Str}{p pos:Pos}(G:Gd c)(hb:Jm c sc x (.type "range"))(S:Snd c C d sc V e a)(S':Snd c C d sc V e' b)(hp:QB e=true)(hp':QB e'=true):WE c C d sc V (.Call (.Name x p) [e,e'] [] pos) (N7 a b):=fun{A s env m σ σ' ρ src} O AK R F h=>by
 refine q1 src ?_;intro Q;obtain⟨q,σ₁,e1,h⟩:=Qh h
 obtain⟨r,σ₂,e2,e3⟩:=Qh h
 clear h;obtain⟨n,rfl,e4⟩:=G1 e3
 obtain⟨k,rfl,e5⟩:=G1 e4
 obtain⟨h1,h2,rfl,rfl⟩:=Gh e5
 refine Call_Name rfl (Zu G O R hb (HO (es:=[e,e']) (by simp[hp,hp']) (by simp) (JJ.two2 S S' hp hp' O AK R F e1 e2 fun m₁ v u s₁ x1 y1 y2=>?_)))
 obtain⟨t,rfl⟩:=y1
 obtain⟨t',rfl⟩:=y2
 refine call_range_2 ?_
 have x2:Aft c W0 m₁ σ' s₁ m₁ σ' {s₁ with heap:=s₁.heap.push {cls:=.type "range",data:=.fields #[.int n t,.int k t',.int 1 s₁.toks]},toks:=s₁.toks+1}:=⟨_,_,rfl,.grow x1.rep (YW _ _)⟩
 refine Qy (DA (s:={s₁ with heap:=s₁.heap.push {cls:=.type "range",data:=.fields #[.int n t,.int k t',.int 1 s₁.toks]},toks:=s₁.toks+1}) x2.rep h1 h2 (Heap.get?_push_size _ rfl)) fun it s₂ z=>?_
 obtain⟨b,m',rfl,x3,e3,off,I⟩:=z
 refine⟨b,m',rfl,(x1.trans x2).trans x3,?_,off,I⟩
 simp only[e3];exact Bf (x1.trans x2)
def Tm:List PySem.Expr→List Str
 |[]=>[]
 |e::r=>(nm1 e).elim [] fun x=>x::Tm r
inductive Z5 (sc:Scope) (V:Vw):List PySem.Expr→List Nat→Prop
 |nil:Z5 sc V [] []
 |cons {x pos es i is}:(i,x)∈V→sc.names.lookup x≠some .free→Z5 sc V es is→Z5 sc V (.Name x pos::es) (i::is)
theorem Z5.each {es:List PySem.Expr}{is:List Nat}(t:Z5 sc V es is):(assignEach es env).length=is.length∧(assignEach es env).findIdx? (·.1)=none:=by
 induction t with
 |nil=>exact⟨rfl,rfl⟩
 |cons _ _ t ih=>
  obtain⟨h1,h2⟩:=ih
  refine⟨by show(assignEach _ env).length+1=_;rw[h1];rfl,?_⟩
  show List.findIdx? (·.1) ((false,_)::assignEach _ env)=none
  rw[List.findIdx?_cons,h2]
  rfl
theorem Bg (O:Ym c sc V env){x:Str}(h:sc.names.lookup x≠some .free):env.kindOf x≠some .free:=by
 show env.scope.names.lookup x≠_
 rw[O.scp];exact h
theorem Ih {es:List PySem.Expr}{is:List Nat}{W:Addr→Prop}(t:Z5 sc V es is):∀{ps:List PV} {vs:List Value} {s:Shared} {m:Mp} {ρ ρ':Lc},(∀x∈Tm es,∀b,WX env x b→W b)→(∀b,W b→WF env b)→Ym c sc V env→Rep c m σ s.heap→Frm c m σ s.heap V env ρ→QD c m σ.length s.heap ps vs→Yx is ps ρ=some ρ'→
  wpAny (model c.prog c.w) A (assignInOrder ((assignEach es env).map (·.2)) vs) (fun Z=>Yg c m σ s (fun m' σ' h'=>Frm c m' σ' h' V env ρ') W σ) (fun Z Z=>False) s:=by
 induction t with
 |nil=>
  intro ps vs s m ρ ρ' hx hw O R F hv h
  refine q1 ρ' ?_;intro Q;clear hv;cases ps with
  |nil=>cases h;exact wpAny_pure (.at (.refl R) F)
  |cons p ps=>refine q0 ?_;intro Q;cases h
 |@cons x pos es i is hm hf t ih=>
  intro ps vs s m ρ ρ' hx hw O R F hv h
  refine q1 vs ?_;intro Q;cases ps with
  |nil=>cases h
  |cons p ps=>
   obtain⟨v,r,rfl,h1,h2⟩:=hv
   show wpAny _ _ (do holding r (assign (.Name x pos) env v);assignInOrder ((assignEach _ env).map (·.2)) r) _ _ _
   refine wpAny_bind (wpAny_holding (PyProof.Rows.assign_Name (Qy (W4 (hx x (.head _)) hw O R F hm (Bg O hf) h1) fun Z s₁ y=>?_)))
   obtain⟨m₁,x1,F1⟩:=y.aft
   clear y;obtain⟨h',t',rfl,S⟩:=id x1
   have tk:=S.tup R fun b its w=>WF.no_tup F b its (hw b w)
   exact Qy (ih (fun y hy=>hx y (.tail _ hy)) hw O x1.rep F1 (h2.mono tk S.ext S.len) h) fun Z Z y=>.of x1 y
def YE (e:PySem.Expr):List Str:=match vx e with
 |.name x _=>[x]
 |.tup es _ _=>Tm es
 |_=>[]
def Y7 (c:Cx)(sc:Scope)(V:Vw)(target:PySem.Expr)(t:Tg):Prop:=∀⦃d:Nat⦄ ⦃A:Around⦄ ⦃s:Shared⦄ ⦃env:Env⦄ ⦃m:Mp⦄ ⦃σ:H⦄ ⦃ρ ρ':Lc⦄ ⦃p:PV⦄ ⦃v:Value⦄ ⦃W:Addr→Prop⦄,(∀x∈YE target,∀b,WX env x b→W b)→(∀b,W b→WF env b)→Ym c sc V env→AOk d A→Rep c m σ s.heap→Frm c m σ s.heap V env ρ→Val c m σ.length s.heap p v→ZY t p ρ=some ρ'→
 wpAny (model c.prog c.w) A (assign target env v) (fun Z=>Yg c m σ s (fun m' σ' h'=>Frm c m' σ' h' V env ρ') W σ) (fun Z Z=>False) s
def HM (c:Cx)(sc:Scope)(V:Vw)(target:PySem.Expr)(t:Tg):Prop:=∀⦃d:Nat⦄ ⦃A:Around⦄ ⦃s:Shared⦄ ⦃env:Env⦄ ⦃m:Mp⦄ ⦃σ:H⦄ ⦃ρ ρ':Lc⦄ ⦃p:PV⦄ ⦃v:Value⦄,Ym c sc V env→AOk d A→Rep c m σ s.heap→Frm c m σ s.heap V env ρ→Val c m σ.length s.heap p v→ZY t p ρ=some ρ'→
 wpAny (model c.prog c.w) A (assign target env v) (fun Z=>Yg c m σ s (fun m' σ' h'=>Frm c m' σ' h' V env ρ') (WF env) σ) (fun Z Z=>False) s
theorem Y7.wf {target:PySem.Expr}{t:Tg}(T:Y7 c sc V target t):HM c sc V target t:=fun Z Z Z Z Z Z Z Z Z Z O AK R F y h=>T (fun Z Z Z w=>w.wf) (fun Z w=>w) O AK R F y h
theorem I2 {x:Str}{i:Nat}{pos:Pos}(hm:(i,x)∈V)(hf:sc.names.lookup x≠some .free):Y7 c sc V (.Name x pos) (.one i):=fun Z Z Z Z Z Z Z Z Z Z Z hx hw O Z R F y h=>by
 cases h
 exact PyProof.Rows.assign_Name (W4 (hx x (.head _)) hw O R F hm (Bg O hf) y)
theorem WT:∀{is:List Nat} {ps:List PV} {ρ ρ':Lc},Yx is ps ρ=some ρ'→is.length=ps.length
 |[],[],_,_,_=>rfl
 |[],_::_,_,_,h=>by cases h
 |_::_,[],_,_,h=>by cases h
 |i::is,p::ps,ρ,_,h=>by simp[WT (is:=is) (ps:=ps) h]
theorem DL {es:List PySem.Expr}{is:List Nat}{k:Nat}{pos:Pos}(N:Z5 sc V es is):Y7 c sc V (.Tuple es k pos) (.many is):=fun{d A s env m σ ρ ρ' p v W} hx hw O AK R F y h=>by
 refine q1 v ?_;intro Q;obtain⟨ps,rfl,h⟩:=OZ h
 obtain⟨a,vs,rfl,ht,hv⟩:=y
 have hl:is.length=ps.length:=WT h
 obtain⟨n1,n2⟩:=N.each (env:=env)
 refine wpAny_assign_Tuple AK.handled ht (by simp only[n1,hl,List.size_toArray,hv.length]) n2 fun h' he=>?_
 have kp:∀b o,s.heap.get? b=some o→h'.get? b=some o:=fun b o e=>he b o (Nat.ne_of_lt (Heap.lt_size e)) e
 have x1:Aft c W0 m σ s m σ {s with heap:=h'}:=⟨h',s.toks,rfl,.grow R kp⟩
 exact Qy (Ih N hx hw O x1.rep (x1.frm R F) (hv.grow kp) h) fun Z Z y=>.of (x1.weak fun Z w=>w.elim) y
theorem E9 {x:Str}{i:Nat}{pos:Pos}(hm:(i,x)∈V)(hf:sc.names.lookup x≠some .free):HM c sc V (.Name x pos) (.one i):=Y7.wf (I2 hm hf)
theorem Tw {es:List PySem.Expr}{is:List Nat}{k:Nat}{pos:Pos}(N:Z5 sc V es is):HM c sc V (.Tuple es k pos) (.many is):=Y7.wf (DL N)
def Jk (t:PySem.Expr):Prop:=(∃x p,t=.Name x p)∨∃es k p,t=.Tuple es k p
theorem pNm {x:Str}{p:Pos}:Jk (.Name x p):=.inl ⟨_,_,rfl⟩
set_option tactic.hygienic true in
theorem Pf {target:PySem.Expr}{v:Value}{it:Addr}{src:Src}{i N:Nat}{Q:Unit→Shared→Prop}{E:Value→Shared→Prop}(ht:Jk target)(I:Zd c m N s.heap it src i)(q:Q () s):wpAny (model c.prog c.w) A (letOwnedTupleGo target (.ref it) v) Q E s:=by
 have key:∀(es:List PySem.Expr) (k:Nat) (pos:Pos),wpAny (model c.prog c.w) A (letOwnedTupleGo (.Tuple es k pos) (.ref it) v) Q E s:=fun es k pos=>by
  cases v<;>try exact wpAny_pure q
  rename_i T
  unfold letOwnedTupleGo
  cases I with
  |lst l i hl hit=>
   obtain⟨o,ho,hc,hd⟩:=hit
   refine wpAny_bind (wpAny_load ho ?_)
   rw[hc,hd]
   dsimp only
   rw[if_neg (by simp)]
   exact wpAny_pure q
  |tup ps i a vs hit ht hv=>
   obtain⟨o,ho,hc,hd⟩:=hit
   refine wpAny_bind (wpAny_load ho ?_)
   rw[hc,hd]
   dsimp only
   rw[if_neg (by simp)]
   exact wpAny_pure q
  |rng a n i hit hi=>
   refine wpAny_bind (wpAny_load hit ?_)
   dsimp only
   rw[if_neg (by simp)]
   exact wpAny_pure q
 rcases ht with ⟨_,_,rfl⟩|⟨_,_,_,rfl⟩
 ·exact wpAny_pure q
 ·exact key _ _ _
end
end Mine.Tactic
namespace Mine.Tactic
section
variable {c:Cx} {C:CT} {d:Nat} {sc:Scope} {V:Vw} {m m₁ m₂:Mp} {σ σ₁ σ₂:H} {s s₁ s₂:Shared} {W:Addr→Prop} {env:Env} {ρ ρ':Lc} {A:Around}
theorem toW (x:Aft c W0 m σ s m₁ σ₁ s₁):Aft c (WF env) m σ s m₁ σ₁ s₁:=x.weak fun Z w=>w.elim
theorem StP.of {fl:Fl}{f:Flow}(x:Aft c (WF env) m σ s m₁ σ₁ s₁)(y:StP c V env m₁ σ₁ s₁ fl ρ' σ₂ f s₂):StP c V env m σ s fl ρ' σ₂ f s₂:=Yg.of x y
theorem StP.nxt (x:Aft c (WF env) m σ s m₁ σ₁ s₁)(F:Frm c m₁ σ₁ s₁.heap V env ρ'):StP c V env m σ s .nxt ρ' σ₁ .next s₁:=.at x ⟨rfl,F⟩
theorem Jf {st:PySem.Stmt}:Ja c C d sc V st Qq:=fun Z Z Z Z Z Z Z Z Z Z Z Z Z=>fo
theorem Mh {e:PySem.Expr}{a:EX}{pos:Pos}(S:Snd c C d sc V e a)(hs:∀env,env.scope=sc→swapsWith e none pos.line env=pure false):Ja c C d sc V (.Expr e pos) (sExp a):=fun{A s env m σ σ' ρ ρ' fl} O AK R F h=>by
 refine q3 σ' ρ' fl ?_;intro Q;obtain⟨q,σ₁,e1,h⟩:=Qh h
 cases h
 have hi:interactive env=false:=by unfold interactive;rw[O.scp,O.kind];rfl
 dsimp only[Q];rw[exec_Expr env e pos hi (hs env O.scp)]
 exact wpAny_bind (wpAny_standAt (wpAny_bind (S.one O AK R F e1 fun m₁ v s₁ x1 y1=>wpAny_dropValue (.nxt (toW x1) (x1.frm R F)))))
theorem BX {e:PySem.Expr}{a:EX}{pos:Pos}(S:Snd c C d sc V e a):Ja c C d sc V (.Return (some e) pos) (QA a):=fun{A s env m σ σ' ρ ρ' fl} O AK R F h=>by
 refine q3 σ' ρ' fl ?_;intro Q;obtain⟨q,σ₁,e1,h⟩:=Qh h
 cases h
 exact wpAny_Return_some (S.one O AK R F e1 fun m₁ v s₁ x1 y1=>.at (toW x1) ⟨⟨v,rfl,y1⟩,x1.frm R F⟩)
theorem Re {pos:Pos}:Ja c C d sc V (.Continue pos) DF:=fun{A s env m σ σ' ρ ρ' fl} O AK R F h=>by
 cases h
 exact wpAny_Continue (.at (.refl R) ⟨rfl,F⟩)
theorem UA {x:Str}{i:Nat}{e:PySem.Expr}{a:EX}{p pos:Pos}(hm:(i,x)∈V)(hf:sc.names.lookup x≠some .free)(S:Snd c C d sc V e a)(hs:∀env,env.scope=sc→swapsWith e (some (.Name x p)) pos.line env=pure false):Ja c C d sc V (.Assign [.Name x p] e pos) (sSet i a):=fun{A s env m σ σ' ρ ρ' fl} O AK R F h=>by
 refine q3 σ' ρ' fl ?_;intro Q;obtain⟨q,σ₁,e1,h⟩:=Qh h
 cases h
 refine wpAny_Assign_Name (S.one O AK R F e1 fun m₁ v s₁ x1 y1=>?_) (hs env O.scp)
 refine Qy (BS O x1.rep (x1.frm R F) hm (Bg O hf) y1) fun Z s₂ y=>?_
 obtain⟨m₂,x2,F2⟩:=y.aft
 exact .nxt ((toW x1).trans x2) F2
theorem Po {es:List PySem.Expr}{is:List Nat}{k:Nat}{e:PySem.Expr}{a:EX}{tp pos:Pos}(N:Z5 sc V es is)(S:Snd c C d sc V e a)(hs:∀env,env.scope=sc→swapsWithSole [.Tuple es k tp] e pos.line env=pure false∧swappedStores [.Tuple es k tp] e env=pure none):Ja c C d sc V (.Assign [.Tuple es k tp] e pos) (sSetT is a):=fun{A s env m σ σ' ρ ρ' fl} O AK R F h=>by
 refine q3 σ' ρ' fl ?_;intro Q;obtain⟨q,σ₁,e1,h⟩:=Qh h
 obtain⟨_,hp,h⟩:=omL h
 ·cases h
  refine PyProof.Rows.Assign_Tuple (S.one O AK R F e1 fun m₁ v s₁ x1 y1=>?_) (hs env O.scp).1 (hs env O.scp).2
  refine Qy (Tw N O AK x1.rep (x1.frm R F) y1 hp) fun Z s₂ y=>?_
  obtain⟨m₂,x2,F2⟩:=y.aft
  exact .nxt ((toW x1).trans x2) F2
theorem LF {i j:Nat}{p q:PV}(h:i≠j):QW (QW ρ i p) j q=QW (QW ρ j q) i p:=List.set_comm _ _ h
theorem NJ:∀{is:List Nat} {ps:List PV} {ρ:Lc} {i:Nat} {p:PV},i∉is→Yx is ps (QW ρ i p)=(Yx is ps ρ).map fun r=>QW r i p
 |[],[],_,_,_,_=>rfl
 |[],_::_,_,_,_,_=>rfl
 |_::_,[],_,_,_,_=>rfl
 |j::is,q::ps,ρ,i,p,h=>by
  rw[List.mem_cons,not_or]at h
  show Yx is ps (QW (QW ρ i p) j q)=(Yx is ps (QW ρ j q)).map _
  rw[LF h.1]
  exact NJ h.2
theorem NG:∀{is:List Nat} {ps:List PV} {ρ:Lc} {i:Nat} {p:PV},is.length=ps.length→Yx (is++[i]) (ps++[p]) ρ=(Yx is ps ρ).map fun r=>QW r i p
 |[],[],_,_,_,_=>rfl
 |[],_::_,_,_,_,h=>by simp at h
 |_::_,[],_,_,_,h=>by simp at h
 |j::is,q::ps,ρ,i,p,h=>NG (is:=is) (ps:=ps) (by simpa using h)
theorem Mu:∀{is:List Nat} {ps:List PV} {ρ:Lc},is.Nodup→is.length=ps.length→Yx is.reverse ps.reverse ρ=Yx is ps ρ
 |[],[],_,_,_=>rfl
 |[],_::_,_,_,h=>by simp at h
 |_::_,[],_,_,h=>by simp at h
 |j::is,q::ps,ρ,hn,h=>by
  rw[List.nodup_cons]at hn
  have h':is.length=ps.length:=by simpa using h
  rw[List.reverse_cons,List.reverse_cons,NG (by simpa using h'),Mu hn.2 h']
  exact(NJ hn.1).symm
inductive J6 (sc:Scope) (V:Vw):List Str→List Nat→Prop
 |nil:J6 sc V [] []
 |cons {x es i is}:(i,x)∈V→sc.names.lookup x≠some .free→J6 sc V es is→J6 sc V (x::es) (i::is)
theorem J6.snoc {x:Str}{i:Nat}{es:List Str}{is:List Nat}(t:J6 sc V es is)(a:(i,x)∈V)(b:sc.names.lookup x≠some .free):J6 sc V (es++[x]) (is++[i]):=by
 induction t with
 |nil=>exact .cons a b .nil
 |cons a' b' t ih=>exact .cons a' b' ih
theorem J6.rev {es:List Str}{is:List Nat}(t:J6 sc V es is):J6 sc V es.reverse is.reverse:=by
 induction t with
 |nil=>exact .nil
 |cons a b t ih=>simp only[List.reverse_cons,List.reverse_cons];exact ih.snoc a b
theorem J6.len {es:List Str}{is:List Nat}(t:J6 sc V es is):es.length=is.length:=by
 induction t with
 |nil=>rfl
 |cons _ _ _ ih=>exact congrArg (·+1) ih
theorem Li {es:List Str}{is:List Nat}(t:J6 sc V es is):∀{ps:List PV} {vs:List Value} {s:Shared} {m:Mp} {ρ ρ':Lc},Ym c sc V env→Rep c m σ s.heap→Frm c m σ s.heap V env ρ→QD c m σ.length s.heap ps vs→Yx is ps ρ=some ρ'→
  wpAny (model c.prog c.w) A (assignInOrder (es.map fun n=>bindName env n) vs) (fun Z=>Yg c m σ s (fun m' σ' h'=>Frm c m' σ' h' V env ρ') (WF env) σ) (fun Z Z=>False) s:=by
 induction t with
 |nil=>
  intro ps vs s m ρ ρ' O R F hv h
  refine q1 ρ' ?_;intro Q;clear hv;cases ps with
  |nil=>cases h;exact wpAny_pure (.at (.refl R) F)
  |cons p ps=>refine q0 ?_;intro Q;cases h
 |@cons x es i is hm hf t ih=>
  intro ps vs s m ρ ρ' O R F hv h
  refine q1 vs ?_;intro Q;cases ps with
  |nil=>cases h
  |cons p ps=>
   obtain⟨v,r,rfl,h1,h2⟩:=hv
   show wpAny _ _ (do holding r (bindName env x v);assignInOrder (List.map (fun n=>bindName env n) _) r) _ _ _
   refine wpAny_bind (wpAny_holding (wpAny_bindName (Qy (BS O R F hm (Bg O hf) h1) fun Z s₁ y=>?_)))
   obtain⟨m₁,x1,F1⟩:=y.aft
   clear y;obtain⟨h',t',rfl,S⟩:=id x1
   have tk:=S.tup R (WF.no_tup F)
   exact Qy (ih O x1.rep F1 (h2.mono tk S.ext S.len) h) fun Z Z y=>.of x1 y
theorem M6 {es:List PySem.Expr}{is:List Nat}{names:List Str}{k:Nat}{e:PySem.Expr}{a:EX}{tp pos:Pos}(N:J6 sc V names is)(hn:is.Nodup)(S:Snd c C d sc V e a)(hs:∀env,env.scope=sc→swapsWithSole [.Tuple es k tp] e pos.line env=pure false∧swappedStores [.Tuple es k tp] e env=pure (some names)):Ja c C d sc V (.Assign [.Tuple es k tp] e pos) (sSetT is a):=fun{A s env m σ σ' ρ ρ' fl} O AK R F h=>by
 refine q3 σ' ρ' fl ?_;intro Q;obtain⟨q,σ₁,e1,h⟩:=Qh h
 obtain⟨_,hp,h⟩:=omL h
 ·cases h
  refine PyProof.Rows.Assign_Tuple_swapped (S.one O AK R F e1 fun m₁ v s₁ x1 y1=>?_) (hs env O.scp).1 (hs env O.scp).2
  clear e1;obtain⟨ps,rfl,hp⟩:=OZ hp
  obtain⟨b,vs,rfl,ht,hv⟩:=y1
  have hl:=WT hp
  have e0:names.length=vs.toArray.size:=by simp only[N.len,hl,List.size_toArray,hv.length]
  rw[e0]
  refine unpackItems_tuple AK.handled ht fun h' he=>?_
  have kp:∀b o,s₁.heap.get? b=some o→h'.get? b=some o:=fun b o e=>he b o (Nat.ne_of_lt (Heap.lt_size e)) e
  have x2:Aft c W0 m₁ _ s₁ m₁ _ {s₁ with heap:=h'}:=⟨h',s₁.toks,rfl,.grow x1.rep kp⟩
  refine Qy (Li N.rev O x2.rep (x2.frm x1.rep (x1.frm R F)) (hv.grow kp).rev (by rewrite [Mu hn hl];exact hp)) fun Z s₃ y=>?_
  obtain⟨m₃,x3,F3⟩:=y.aft
  exact .nxt ((toW (x1.trans x2)).trans x3) F3
theorem xpT (x:Yg c m σ s (fun Z Z Z=>True) W0 σ₁ s₁):∃m₁,Aft c W0 m σ s m₁ σ₁ s₁:=let ⟨m₁,a,_⟩:=x.aft;⟨m₁,a⟩
theorem Io {o e:PySem.Expr}{x:Str}{k:Nat}{a b:EX}{p pos:Pos}(G:Kd c)(hx:x=Q6 k)(So:Snd c C d sc V o a)(Se:Snd c C d sc V e b)(hs:∀env,env.scope=sc→swapsWith e (some (.Attribute o x p)) pos.line env=pure false):Ja c C d sc V (.Assign [.Attribute o x p] e pos) (sAttr a k b):=fun{A s env m σ σ' ρ ρ' fl} O AK R F h=>by
 refine q4 x σ' ρ' fl ?_;intro Q;subst hx
 obtain⟨q,σ₁,e1,h⟩:=Qh h
 obtain⟨r,σ₂,e2,h⟩:=Qh h
 obtain⟨_,hh,h⟩:=omH h
 ·refine q3 σ' ρ' fl ?_;intro Q;cases h
  refine plainObj_wpAny_Assign_Attribute (Se.one O AK R F e1 fun m₁ v s₁ x1 y1=>So.one O AK x1.rep (x1.frm R F) e2 fun m₂ u s₂ x2 y2=>?_) (hs env O.scp)
  refine Qy (B0 G k AK x2.rep y2 (x2.val x1.rep y1) hh) fun Z s₃ y=>?_
  obtain⟨m₃,x3⟩:=xpT y
  have x:=(x1.trans x2).trans x3
  exact .nxt (toW x) (x.frm R F)
theorem Eb {o i e:PySem.Expr}{a b f:EX}{p pos:Pos}(So:Snd c C d sc V o a)(Si:Snd c C d sc V i b)(Se:Snd c C d sc V e f)(hs:∀env,env.scope=sc→swapsWith e (some (.Subscript o i p)) pos.line env=pure false):Ja c C d sc V (.Assign [.Subscript o i p] e pos) (BE a b f):=fun{A s env m σ σ' ρ ρ' fl} O AK R F h=>by
 refine q3 σ' ρ' fl ?_;intro Q;obtain⟨q,σ₁,e1,h⟩:=Qh h
 obtain⟨r,σ₂,e2,h⟩:=Qh h
 obtain⟨t,σ₃,e3,h⟩:=Qh h
 obtain⟨_,hh,h⟩:=omH h
 ·refine q3 σ' ρ' fl ?_;intro Q;cases h
  refine wpAny_Assign_Subscript (Se.one O AK R F e1 fun m₁ v s₁ x1 y1=>So.one O AK x1.rep (x1.frm R F) e2 fun m₂ u s₂ x2 y2=>Si.one O AK x2.rep (x2.frm x1.rep (x1.frm R F)) e3 fun m₃ w s₃ x3 y3=>?_) (hs env O.scp)
  refine Qy (LO AK x3.rep (x3.val x2.rep y2) y3 ((x2.trans x3).val x1.rep y1) hh) fun Z s₄ y=>?_
  obtain⟨m₄,x4⟩:=xpT y
  have x:=((x1.trans x2).trans x3).trans x4
  exact .nxt (toW x) (x.frm R F)
theorem Jh:WP c C d sc V [] (QN []):=fun{A s env m σ σ' ρ ρ' fl} O AK R F h=>by
 cases h
 exact wpAny_execs_nil (.nxt (.refl R) F)
theorem QV {st:PySem.Stmt}{sts:List PySem.Stmt}{f:SX}{fs:List SX}(S:Ja c C d sc V st f)(B:WP c C d sc V sts (QN fs)):WP c C d sc V (st::sts) (QN (f::fs)):=fun{A s env m σ σ' ρ ρ' fl} O AK R F h=>by
 obtain⟨⟨g,ρ₁⟩,σ₁,e1,h⟩:=Qh h
 refine wpAny_execs_cons (Qy (S O AK R F e1) fun fl' s₁ y=>?_)
 clear e1;obtain⟨m₁,x1,y1,F1⟩:=Yg.aft y
 clear y;cases g with
 |nxt=>
  cases y1
  exact Qy (B O AK x1.rep F1 h) fun Z Z y=>.of x1 y
 |cnt=>
  refine q4 σ' ρ' fl fl' ?_;intro Q;cases y1
  cases h
  exact .at x1 ⟨rfl,F1⟩
 |ret p=>
  refine q4 σ' ρ' fl fl' ?_;intro Q;obtain⟨v,rfl,hv⟩:=y1
  cases h
  exact .at x1 ⟨⟨v,rfl,hv⟩,F1⟩
theorem Pd {t:PySem.Expr}{a b:List PySem.Stmt}{pos:Pos}{ft:TX}{fa fb:List SX}(St:Jy c C d sc V t ft)(Sa:WP c C d sc V a (QN fa))(Sb:WP c C d sc V b (QN fb)):Ja c C d sc V (.If t a b pos) (sIf ft fa fb):=fun{A s env m σ σ' ρ ρ' fl} O AK R F h=>by
 obtain⟨q,σ₁,e1,h⟩:=Qh h
 refine wpAny_If (St.one O AK R F e1 fun m₁ s₁ x1=>?_)
 clear e1;cases q with
 |true=>exact Qy (Sa O AK x1.rep (x1.frm R F) h) fun Z Z y=>.of (toW x1) y
 |false=>exact Qy (Sb O AK x1.rep (x1.frm R F) h) fun Z Z y=>.of (toW x1) y
def D5 (Q:Flow→Shared→Prop)(r:Result)(s':Shared):Prop:=match r with
 |.ok f=>Q f s'
 |.error _=>False
theorem UI {t:PySem.Expr}{body:List PySem.Stmt}{pos:Pos}{ft:TX}{fb:List SX}(St:Jy c C d sc V t ft)(Sb:WP c C d sc V body (QN fb)):Ja c C d sc V (.While t body [] pos) (ZA ft fb):=fun{A s env m σ σ' ρ ρ' fl} O AK R F h=>by
 refine wpAny_While (codeAny_mono (R:=D5 (StP c V env m σ s fl ρ' σ')) ?_ fun r s' z=>by cases r<;>first|exact z|exact z.elim)
 refine codeAny_whileLoop (fun n s'=>∃m₁ σ₁ ρ₁,Aft c (WF env) m σ s m₁ σ₁ s'∧Frm c m₁ σ₁ s'.heap V env ρ₁∧YX ft (QN fb) n C c.ns ρ₁ σ₁=some ((fl,ρ'),σ')) (fun n s' I=>?_) BG ⟨m,σ,ρ,.refl R,F,h⟩
 refine q4 σ' ρ' fl n ?_;intro Q;clear h;obtain⟨m₁,σ₁,ρ₁,x1,F1,h⟩:=I
 cases n with
 |zero=>refine q0 ?_;intro Q;cases h
 |succ n=>
  obtain⟨q,σ₂,e1,h⟩:=Qh h
  refine wpAny_mono (St.one O AK x1.rep F1 e1 (Q:=fun b s₂=>b=q∧∃m₂,Aft c W0 m₁ σ₁ s' m₂ σ₂ s₂) (E:=fun Z Z=>False) fun m₂ s₂ x2=>⟨rfl,m₂,x2⟩) (fun b s₂ z=>?_) fun Z Z z=>z.elim
  clear e1;obtain⟨rfl,m₂,x2⟩:=z
  have F2:=x2.frm x1.rep F1
  have x12:=x1.trans (toW (env:=env) x2)
  cases b with
  |true=>
   refine q3 σ' ρ' fl ?_;intro Q;obtain⟨⟨g,ρ₂⟩,σ₃,e2,h⟩:=Qh h
   refine wpAny_mono (Sb O AK x2.rep F2 e2) (fun f s₃ z=>?_) fun Z Z z=>z.elim
   clear e2;obtain⟨m₃,x3,y3,F3⟩:=Yg.aft z
   clear z;cases g with
   |nxt=>cases y3;exact⟨n,Nat.lt_succ_self _,m₃,σ₃,ρ₂,x12.trans x3,F3,h⟩
   |cnt=>cases y3;exact⟨n,Nat.lt_succ_self _,m₃,σ₃,ρ₂,x12.trans x3,F3,h⟩
   |ret p=>
    refine q4 σ' ρ' fl f ?_;intro Q;obtain⟨v,rfl,hv⟩:=y3
    cases h
    exact Yg.at (P:=fun m' σ' h'=>AZ c m' σ'.length h' (.ret p) (.ret v)∧Frm c m' σ' h' V env ρ₂) (x12.trans x3) ⟨⟨v,rfl,hv⟩,F3⟩
  |false=>
   refine q3 σ' ρ' fl ?_;intro Q;cases h
   exact wpAny_execs_nil (show StP c V env m σ s .nxt _ _ .next s₂ from .nxt x12 F2)
theorem WF.none (F:Frm c m σ s.heap V env ρ){a:Addr}(h:s.heap.get? a=none):¬WF env a:=fun w=>by
 rcases w with rfl|⟨x,hx⟩
 ·obtain⟨mm,o,es,ep,e,_⟩:=F.ns;rw[h]at e;cases e
 ·obtain⟨ov,o,e,_⟩:=F.isC x a hx;rw[h]at e;cases e
inductive FoI (c:Cx) (V:Vw) (env:Env) (m:Mp) (σ:H) (s:Shared) (a:Addr) (src:Src) (t:Tg) (fb:SX) (C:CT) (r:(Fl×Lc)×H) (n:Nat) (s':Shared):Prop
 |mk (m₂:Mp) (σ₂:H) (ρ₂:Lc) (i:Nat) (u:Upd s s') (K:Wk c (WF env) m σ s.heap m₂ σ₂ s'.heap a) (I:Zd c m₂ σ₂.length s'.heap a src i) (F:Frm c m₂ σ₂ s'.heap V env ρ₂) (e:YF t fb n src i C c.ns ρ₂ σ₂=some r)
theorem Frm.next {h h₃:Heap}{a:Addr}(F2:Frm c m σ h V env ρ)(Wa:¬WF env a)(tk3:YD h h₃)(kk:∀b o,b≠a→h.get? b=some o→h₃.get? b=some o):Frm c m σ h₃ V env ρ:=by
 obtain⟨mm,hn2⟩:=F2.ns
 refine⟨⟨mm,?_⟩,fun j y hy=>(F2.var j y hy).mono tk3 (Mp.Ext.refl _ _) (Nat.le_refl _) (fun o e=>kk _ _ (fun q=>Wa (.inl q.symm)) e) (fun b o e ho=>kk _ _ (fun q=>Wa (.inr ⟨y,q▸e⟩)) ho),F2.offL,F2.offC,fun y b e=>?_⟩
 ·obtain⟨o,es,ep,e,r⟩:=hn2
  exact⟨o,es,ep,kk _ _ (fun q=>Wa (.inl q.symm)) e,r⟩
 ·obtain⟨ov,o,ho,hd⟩:=F2.isC y b e
  exact⟨ov,o,kk _ _ (fun q=>Wa (.inr ⟨y,q▸e⟩)) ho,hd⟩
theorem Ke {target iter:PySem.Expr}{body:List PySem.Stmt}{pos:Pos}{t:Tg}{it:IX}{fb:List SX}(Ti:HM c sc V target t)(hp:Jk target)(Si:WE c C d sc V iter it)(Sb:WP c C d sc V body (QN fb))(hs:∀env x,env.scope=sc→foldedSetIterable iter env x=pure x):Ja c C d sc V (.For target iter body [] pos) (YK t it fb):=fun{A s env m σ σ' ρ ρ' fl} O AK R F h=>by
 refine HK fun Q hQ=>?_
 obtain⟨src,σ₁,e1,h⟩:=Qh h
 refine wpAny_For (Qy (Si O AK R F e1) fun x s₁ z=>Qy z fun itv s₂ z=>?_) fun x=>hs env x O.scp
 obtain⟨a,m₁,rfl,x1,hn,off,I0⟩:=z
 have Wa:¬WF env a:=WF.none F hn
 refine codeAny_mono (R:=D5 Q) ?_ fun r s' z=>by cases r<;>first|exact z|exact z.elim
 refine codeAny_forLoop_any (FoI c V env m σ s a src t (QN fb) C ((fl,ρ'),σ')) (fun n s' I=>?_) BG ⟨m₁,σ₁,ρ,0,x1.upd,⟨x1.stp.weak fun Z w=>w.elim,hn,off⟩,I0,x1.frm R F,h⟩
 clear h e1 x1 I0 off
 clear h;obtain⟨m₂,σ₂,ρ₂,i,hS,K,It,F2,h⟩:=I
 cases n with
 |zero=>refine q0 ?_;intro Q;cases h
 |succ n=>
  refine q3 σ' ρ' fl ?_;intro Q;rw[BM]at h
  split at h
  ·rename_i p hsrc
   refine Qy (ZQ hsrc AK K.stp.rep K R Wa It) fun r s₃ z=>?_
   apply NxP.one z;intro v u3 hv K3 S3 tk3 It3
   refine Pf hp It3 ?_
   have F3:=F2.stpW S3 tk3 (fun q=>Wa (.inl q.symm)) (fun y b e q=>Wa (.inr ⟨y,q▸e⟩))
   obtain⟨ρ₃,hput,h⟩:=omL h
   ·refine Qy (Ti O AK K3.stp.rep F3 hv hput) fun Z s₄ z=>?_
    obtain⟨m₄,x4,F4⟩:=Yg.aft z
    have It4:=Wq K3 x4.stp (x4.stp.tup K3.stp.rep (WF.no_tup F3)) Wa It3
    have K4:=K3.step x4.stp (let ⟨o,e,_⟩:=It3.obj;⟨o,e⟩)
    obtain⟨⟨g,ρ₄⟩,σ₅,e5,h⟩:=Qh h
    refine Qy (Sb O AK x4.rep F4 e5) fun f s₅ z=>?_
    clear e5;obtain⟨m₅,x5,y5,F5⟩:=Yg.aft z
    clear z;have It5:=Wq K4 x5.stp (x5.stp.tup x4.rep (WF.no_tup F4)) Wa It4
    have K5:=K4.step x5.stp (let ⟨o,e,_⟩:=It4.obj;⟨o,e⟩)
    have u5:=hS.trans (u3.trans (x4.upd.trans x5.upd))
    cases g with
    |nxt=>cases y5;exact⟨n,Nat.lt_succ_self _,m₅,σ₅,ρ₄,i+1,u5,K5,It5,F5,h⟩
    |cnt=>cases y5;exact⟨n,Nat.lt_succ_self _,m₅,σ₅,ρ₄,i+1,u5,K5,It5,F5,h⟩
    |ret p=>
     refine q4 σ' ρ' fl f ?_;intro Q;obtain⟨v,rfl,hv⟩:=y5
     cases h
     exact hQ _ _ (u5.at (K5.stp.inner fun b w=>w.elim .inl fun e=>.inr (e▸hn)) ⟨⟨v,rfl,hv⟩,F5⟩)
  ·rename_i hsrc
   cases h
   refine Qy (ZQ hsrc AK K.stp.rep K R Wa It) fun r s₃ z=>?_
   apply NxP.nil z;intro u3 S3 tk3 kk
   exact wpAny_execs_nil (hQ _ _ ((hS.trans u3).at S3 ⟨rfl,F2.next Wa tk3 kk⟩))
  ·cases h
end
end Mine.Tactic
namespace Mine.Tactic
section
theorem M4 {kf:Str→Option NameKind}{x:Str}:∀{b:List (Str×Value)} {m:Str→Option Value},x∉b.map (·.1)→bindL kf b m x=m x
 |[],_,_=>rfl
 |(n,v)::r,m,h=>by
  rw[List.map_cons,List.mem_cons,not_or]at h
  unfold bindL
  rw[M4 h.2]
  split
  ·exact if_neg h.1
  ·rfl
theorem OI {kf:Str→Option NameKind}{x:Str}:∀{b:List (Str×Value)} {m:Str→Option Value},x∉b.map (·.1)→bindC kf b m x=m x
 |[],_,_=>rfl
 |(n,v)::r,m,h=>by
  rw[List.map_cons,List.mem_cons,not_or]at h
  unfold bindC
  rw[OI h.2]
  split
  ·rfl
  ·exact if_neg h.1
theorem Op {kf:Str→Option NameKind}{x:Str}{v:Value}(hk:kf x=some .local):∀{b:List (Str×Value)} {m:Str→Option Value},(b.map (·.1)).Nodup→(x,v)∈b→bindL kf b m x=some v
 |[],_,_,h=>by cases h
 |(n,w)::r,m,hn,h=>by
  simp only[List.map_cons,List.nodup_cons]at hn
  unfold bindL
  rcases List.mem_cons.mp h with e|h
  ·refine q2 n w ?_;intro Q;cases e
   dsimp only[Q];rewrite [M4 hn.1,if_pos hk]
   exact if_pos rfl
  ·exact Op hk hn.2 h
theorem OJ {kf:Str→Option NameKind}{x:Str}{v:Value}(hk:kf x=some .cell):∀{b:List (Str×Value)} {m:Str→Option Value},(b.map (·.1)).Nodup→(x,v)∈b→bindC kf b m x=some v
 |[],_,_,h=>by cases h
 |(n,w)::r,m,hn,h=>by
  simp only[List.map_cons,List.nodup_cons]at hn
  unfold bindC
  rcases List.mem_cons.mp h with e|h
  ·refine q2 n w ?_;intro Q;cases e
   dsimp only[Q];rewrite [OI hn.1,if_neg (by rw[hk];simp)]
   exact if_pos rfl
  ·exact OJ hk hn.2 h
theorem Zh {x:Str}:∀{names:List (Str×NameKind)} {n:Addr} {acc:List (Str×Addr)},(x,NameKind.cell)∈names∨(∃a,(x,a)∈acc)→∃a,(x,a)∈cellsFrom n names acc
 |[],_,_,h=>by
  rcases h with h|h
  ·cases h
  ·exact h
 |(y,k)::r,n,acc,h=>by
  unfold cellsFrom
  split
  ·rename_i hk
   clear hk;refine Zh ?_
   rcases h with h|⟨a,h⟩
   ·rcases List.mem_cons.mp h with e|h
    clear h;· cases e;exact .inr ⟨_,.head _⟩
    ·exact .inl h
   ·exact .inr ⟨a,.tail _ h⟩
  ·rename_i hk
   refine Zh ?_
   rcases h with h|⟨a,h⟩
   ·rcases List.mem_cons.mp h with e|h
    clear h;· cases e;exact absurd rfl hk
    ·exact .inl h
   ·exact .inr ⟨a,h⟩
theorem Jw {α:Type}{x:Str}:∀{l:List (Str×α)} {a:α},(x,a)∈l→(l.lookup x).isSome=true
 |[],_,h=>by cases h
 |(y,b)::r,a,h=>by
  rw[List.lookup_cons]
  cases q:x==y with
  |true=>rfl
  |false=>
   rcases List.mem_cons.mp h with e|h
   clear h;· refine q0 ?_;intro Q;cases e;simp at q
   ·exact Jw h
theorem MF {x:Str}{names:List (Str×NameKind)}{n:Addr}(h:names.lookup x=some .cell):((cellsFrom n names []).lookup x).isSome=true:=
 let ⟨_,e⟩:=Zh (n:=n) (acc:=[]) (.inl (PySem.mem_of_lookup h))
 Jw e
end
structure Vd (c:Cx) (f:Nat) (sc:Scope) (body:List PySem.Stmt) (params:List Str) (dps:List PV) (fd:FuncData):Prop where
 obj:∃o,c.g.get? (c.fnA f)=some o∧o.data=.func fd
 body:fd.body=.stmts body
 scope:fd.scope=sc
 glb:fd.globals=mainGlobals
 blt:fd.builtins=builtinsNs
 clo:fd.closure=[]
 code:c.g.CodeRec fd.code fd.qualname
 kind:sc.kind=.function
 gen:sc.isGenerator=false
 cor:sc.isCoroutine=false
 bind:∀(s:Shared) (vs:List Value),(∀b o,c.g.get? b=some o→s.heap.get? b=some o)→vs.length≤params.length→params.length - vs.length≤dps.length→
  ∃dv,BindsTo s fd ⟨vs,[]⟩ (params.zip (vs++dv))∧(∀m N,QD c m N s.heap (dps.drop (dps.length - (params.length - vs.length))) dv)
 parN:params.Nodup
 parK:∀x∈params,sc.names.lookup x=some .local∨sc.names.lookup x=some .cell
structure AL (sc:Scope) (params:List Str) (V:Vw):Prop where
 once:(V.map (·.2)).Nodup
 fst:(V.map (·.1)).Nodup
 kind:∀p∈V,sc.names.lookup p.2=some .local∨sc.names.lookup p.2=some .cell
 par:∀p∈V,p.1<params.length→params[p.1]?=some p.2
theorem OE {V:Vw}(h:(V.map (·.2)).Nodup):∀{i j:Nat} {x:Str},(i,x)∈V→(j,x)∈V→i=j:=by
 induction V with
 |nil=>intro i j x a;cases a
 |cons p r ih=>
  intro i j x a b
  rw[List.map_cons,List.nodup_cons]at h
  rcases List.mem_cons.mp a with e|a2<;>rcases List.mem_cons.mp b with e'|b2
  ·rw[←e']at e;exact(Prod.mk.inj e).1
  ·subst e;exact(h.1 (List.mem_map.mpr ⟨(j,x),b2,rfl⟩)).elim
  ·subst e';exact(h.1 (List.mem_map.mpr ⟨(i,x),a2,rfl⟩)).elim
  ·exact ih h.2 a2 b2
theorem On {V:Vw}(h:(V.map (·.1)).Nodup):∀{i:Nat} {x y:Str},(i,x)∈V→(i,y)∈V→x=y:=by
 induction V with
 |nil=>intro i x y a;cases a
 |cons p r ih=>
  intro i x y a b
  rw[List.map_cons,List.nodup_cons]at h
  rcases List.mem_cons.mp a with e|a2<;>rcases List.mem_cons.mp b with e'|b2
  ·rw[←e']at e;exact(Prod.mk.inj e).2
  ·subst e;exact(h.1 (List.mem_map.mpr ⟨(i,y),b2,rfl⟩)).elim
  ·subst e';exact(h.1 (List.mem_map.mpr ⟨(i,x),a2,rfl⟩)).elim
  ·exact ih h.2 a2 b2
def Qr (a:Nat×List PV×Nat)(ps:List PV):Option Lc:=
 if Nat.ble ps.length a.1 then
  let miss:=a.1 - ps.length
  if Nat.ble miss a.2.1.length then some (ps++a.2.1.drop (a.2.1.length - miss)++List.replicate (a.2.2 - a.1) .unb)else none
 else none
section
variable {c:Cx} {C:CT} {d:Nat} {sc:Scope} {V:Vw} {m:Mp} {σ σ':H} {s:Shared} {A:Around}
theorem D3 {f:Nat}{body:List PySem.Stmt}{params:List Str}{dps:List PV}{fd:FuncData}{nl:Nat}(X:Vd c f sc body params dps fd){ps:List PV}{vs:List Value}{ρ:Lc}(R:Rep c m σ s.heap)(y:QD c m σ.length s.heap ps vs)(hρ:Qr (params.length,dps,nl) ps=some ρ):
  ∃qs us kk,ρ=qs++List.replicate kk .unb∧QD c m σ.length s.heap qs us∧us.length=params.length∧BindsTo s fd ⟨vs,[]⟩ (params.zip us):=by
 have len:=y.length
 unfold Qr at hρ
 obtain⟨k1,hρ⟩:=itS hρ
 obtain⟨k2,hρ⟩:=itS hρ
 have k1:ps.length≤params.length:=Nat.le_of_ble_eq_true k1
 have k2:params.length - ps.length≤dps.length:=Nat.le_of_ble_eq_true k2
 obtain⟨dv,hbind,hdv⟩:=X.bind s vs R.base (by rw[len];exact k1) (by rw[len];exact k2)
 rw[len]at hdv
 have hall:=y.append (hdv m σ.length)
 exact⟨_,_,nl - params.length,(Option.some.inj hρ).symm,hall,by rw[hall.length,List.length_append,List.length_drop];exact o350 k1 k2,hbind⟩
theorem Ev {f:Nat}{body:List PySem.Stmt}{fb:List SX}{params:List Str}{dps:List PV}{fd:FuncData}{nl:Nat}(G:Kd c)(HB:WP c C d sc V body (QN fb))(X:Vd c f sc body params dps fd)(VO:AL sc params V)
  {ps:List PV} {vs:List Value} {p:PV} {ρ:Lc} (AK:ZW (d+1) A) (R:Rep c m σ s.heap) (y:QD c m σ.length s.heap ps vs) (hρ:Qr (params.length,dps,nl) ps=some ρ) (h:Af fb C c.ns ρ σ=some (p,σ')):
  codeAny (model c.prog c.w) A (.call (.ref (c.fnA f)) ⟨vs,[]⟩) (I4 (QF c m σ s p σ')) s:=by
 obtain⟨o,ho,hd⟩:=X.obj
 obtain⟨qs,us,kk,rfl,hall,hlen,hbind⟩:=D3 X R y hρ
 clear hρ
 have hkeys:(params.zip us).map (·.1)=params:=by
  rw[List.map_fst_zip];exact o77 hlen
 refine codeAny_call_function (by have:=AK.depth;exact o157 this) (R.base _ _ ho) hd (by rw[X.scope];exact X.cor) (by rw[X.scope];exact X.gen) X.body (X.code.keeps R.base) (hbind _ _ _ _ ?_)
 rw[X.clo]
 refine wpAny_newFunctionEnv_cells (by rw[X.scope];exact X.kind) (fun z hz=>?_) fun env he s' x=>?_
 ·have:z.1∈params:=hkeys▸List.mem_map_of_mem hz
  rw[X.scope]
  rcases X.parK _ this with e|e
  ·exact .inl e
  ·exact .inr ⟨e,MF e⟩
 ·have hE:=he.symm
  clear he;have hlim:=G.nolimit.keeps R.base
  refine⟨hlim.keeps x.toInCall.keep,codeAny_func ?_⟩
  obtain⟨h₁,t₁,rfl,hk₁⟩:=x.done
  have hL:∀a,s.heap.objs.size≤a→c.g.get? a=none:=fun a ha=>by
   cases z:c.g.get? a with
   |none=>rfl
   |some o=>exact absurd (Heap.lt_size (R.base _ _ z)) (Nat.not_lt.mpr ha)
  have hN:∀a,s.heap.objs.size≤a→s.heap.get? a=none:=fun a ha=>Heap.get?_none_of_le ha
  have hEl:env.locals=s.heap.objs.size:=by rw[←hE];rfl
  have hEs:env.scope=sc:=by simp only[←hE];exact X.scope
  have hEk:∀z,env.kindOf z=sc.names.lookup z:=fun z=>by show env.scope.names.lookup z=_;rw[hEs]
  have hEc:env.cells=cellsFrom (s.heap.objs.size+1) fd.scope.names []:=by simp only[←hE];rfl
  have cellAbove:∀z a,env.cells.lookup z=some a→s.heap.objs.size<a:=fun z a e=>by have:=x.above z a (PySem.mem_of_lookup e);rw[hEl]at this;exact this
  have O:Ym c sc V env:=⟨hEs,X.kind,by rw[←hE];exact X.glb,by rw[←hE];exact X.blt,by rw[hEl];exact hL _ (Nat.le_refl _),fun z a e=>⟨hL _ (Nat.le_of_lt (cellAbove z a e)),by rw[hEl];exact Nat.ne_of_gt (cellAbove z a e)⟩,
   fun z z' a e e'=>PySem.name_of_addr x.apart (PySem.mem_of_lookup e) (PySem.mem_of_lookup e'),fun i j z a b=>OE VO.once a b,fun i z z' a b=>On VO.fst a b⟩
  have x0:Aft c W0 m σ s m σ {s with heap:=h₁,toks:=t₁}:=⟨h₁,t₁,rfl,.grow R hk₁⟩
  have offN:∀a,s.heap.objs.size≤a→∀l,l<σ.length→m.μ l≠a:=fun a ha l hl q=>by
   obtain⟨o,e,_⟩:=R.mut hl
   have:=Heap.lt_size e
   rw[q]at this;exact absurd this (Nat.not_lt.mpr ha)
  have F:Frm c m σ h₁ V env (qs++List.replicate kk .unb):=by
   refine⟨⟨_,x.toInCall.ns⟩,fun i z hz=>?_,by rw[hEl];exact offN _ (Nat.le_refl _),fun z a e=>offN a (Nat.le_of_lt (cellAbove z a e)),fun z a e=>⟨_,x.cell z a e⟩⟩
   have hv:Ya (qs++List.replicate kk .unb) i≠.unb→∃v,(z,v)∈params.zip us∧Val c m σ.length h₁ (Ya (qs++List.replicate kk .unb) i) v:=fun nu=>by
    have hi:i<params.length:=by
     rcases Nat.lt_or_ge i params.length with q|q
     ·exact q
     ·refine absurd ?_ nu
      unfold Ya
      rw[List.getElem?_append_right (by rw[←hall.length,hlen];exact q)]
      cases e:(List.replicate kk PV.unb)[i - qs.length]? with
      |none=>rfl
      |some w=>rw[List.getElem?_replicate]at e;split at e<;>cases e;rfl
    have hi':i<qs.length:=by rw[←hall.length,hlen];exact hi
    obtain⟨v,e1,e2⟩:=hall.get (i:=i) (p:=qs[i]) (by simp[hi'])
    refine⟨v,?_,?_⟩
    ·have:=VO.par _ hz hi
     refine List.mem_iff_getElem?.mpr ⟨i,?_⟩
     rw[List.getElem?_zip_eq_some]
     exact⟨this,e1⟩
    ·have:Ya (qs++List.replicate kk .unb) i=qs[i]:=by
      unfold Ya
      rw[List.getElem?_append_left hi',List.getElem?_eq_getElem hi']
     rw[this]
     exact e2.grow hk₁
   rcases VO.kind _ hz with k|k
   ·refine .inl ⟨(hEk z).trans k,_,x.toInCall.ns,fun nu=>?_⟩
    obtain⟨v,a,b⟩:=hv nu
    exact⟨v,Op ((hEk z).trans k) (by rw[hkeys];exact X.parN) a,b⟩
   ·obtain⟨a,ea⟩:=Option.isSome_iff_exists.mp (MF (n:=s.heap.objs.size+1) (show fd.scope.names.lookup z=some .cell by rw[X.scope];exact k))
    rw[←hEc]at ea
    refine .inr ⟨.inl ((hEk z).trans k),a,_,ea,x.cell z a ea,fun nu=>?_⟩
    obtain⟨v,a,b⟩:=hv nu
    exact⟨v,OJ ((hEk z).trans k) (by rw[hkeys];exact X.parN) a,b⟩
  obtain⟨⟨fl,ρ'⟩,σ₁,e1,h⟩:=Qh h
  refine wpAny_mono (HB O (AK.body env) x0.rep F e1) (fun fl' s₂ z=>?_) fun Z Z z=>z.elim
  clear e1;obtain⟨m₂,x2,y2,_⟩:=Yg.aft z
  clear z;obtain⟨h₂,t₂,rfl,S2⟩:=id x2
  have S:Stp c W0 m σ s.heap m₂ σ₁ h₂:=by
   refine((x0.stp.weak fun Z w=>w.elim).trans S2).inner fun b w=>.inr ?_
   rcases w with rfl|⟨z,e⟩
   ·rw[hEl];exact hN _ (Nat.le_refl _)
   ·exact hN _ (Nat.le_of_lt (cellAbove z b e))
  cases fl with
  |ret q=>
   obtain⟨v,rfl,hv⟩:=y2
   cases h
   exact⟨m₂,h₂,t₂,rfl,S,hv⟩
  |nxt=>cases y2;cases h;exact⟨m₂,h₂,t₂,rfl,S,Pr⟩
  |cnt=>cases y2;cases h;exact⟨m₂,h₂,t₂,rfl,S,Pr⟩
end
end Mine.Tactic
namespace Mine.Tactic
def QI (scope sc:Scope):Scope:=
 {scope with names:=scope.names.map fun(n,k)=>if(k==.free&&sc.kind==.function&&sc.names.lookup n==some .cell)then(n,.cell)else(n,k)}
theorem UJ (scope:Scope)(env:Env):relabel scope env=QI scope env.scope:=rfl
structure WY (sc scope:Scope) (V V':Vw) (own:List Nat):Prop where
 kind:scope.kind=.function
 names:∀x∈scope.names,x.2=.local→scope.names.lookup x.1=some .local
 free:∀x,(x,NameKind.free)∈scope.names→sc.names.lookup x=some .cell∧∃i,(i,x)∈V
 view:∀p∈V',(p.1∈own∧((QI scope sc).names.lookup p.2=some .local∨((QI scope sc).names.lookup p.2=some .cell∧(p.2,NameKind.cell)∈scope.names∧(p.2,NameKind.free)∉scope.names)))∨
  (p.1∉own∧p∈V∧(p.2,NameKind.free)∈scope.names∧(p.2,NameKind.cell)∉scope.names∧(QI scope sc).names.lookup p.2=some .cell)
 once:(V'.map (·.2)).Nodup
 fst:(V'.map (·.1)).Nodup
theorem Wn {x:Str}{a:Addr}:∀{names:List (Str×NameKind)} {h:Heap} {acc:List (Str×Addr)},(x,a)∈cellsFrom h.objs.size names acc→(x,a)∈acc∨((x,NameKind.cell)∈names∧h.objs.size≤a∧(pushCells h names).IsCell a none)
 |[],_,_,h=>.inl h
 |(y,k)::r,h,acc,hm=>by
  unfold cellsFrom at hm
  unfold pushCells
  split at hm
  ·rename_i hk
   rw[if_pos hk]
   have hk':k=.cell:=by simpa using hk
   clear hk;subst hk'
   rw[←Heap.size_push h {cls:=.type "cell",data:=.cell none}]at hm
   rcases Wn hm with e|⟨e1,e2,e3⟩
   ·rcases List.mem_cons.mp e with e|e
    ·cases e
     exact .inr ⟨.head _,Nat.le_refl _,⟨_,pushCells_keeps _ _ _ _ (Heap.get?_push_size _ rfl),rfl⟩⟩
    ·exact .inl e
   ·rw[Heap.size_push]at e2
    exact .inr ⟨.tail _ e1,Nat.le_of_succ_le e2,e3⟩
  ·refine q0 ?_;intro Q;rename_i hk
   dsimp only[Q];rw[if_neg hk]
   rcases Wn hm with e|⟨e1,e2,e3⟩
   ·exact .inl e
   ·exact .inr ⟨.tail _ e1,e2,e3⟩
theorem BO {x y:Str}{a:Addr}:∀{names:List (Str×NameKind)} {n:Addr} {acc:List (Str×Addr)},(∀z b,(z,b)∈acc→b<n)→n≤a→(x,a)∈cellsFrom n names acc→(y,a)∈cellsFrom n names acc→x=y
 |[],n,acc,ha,hn,hx,_=>absurd (ha _ _ hx) (Nat.not_lt.mpr hn)
 |(w,k)::r,n,acc,ha,hn,hx,hy=>by
  unfold cellsFrom at hx hy
  split at hx
  ·rename_i hk
   rw[if_pos hk]at hy
   have ha':∀z b,(z,b)∈(w,n)::acc→b<n+1:=fun z b e=>by
    rcases List.mem_cons.mp e with e|e
    ·cases e;exact Nat.lt_succ_self _
    ·exact Nat.lt_succ_of_lt (ha z b e)
   rcases Nat.lt_or_eq_of_le hn with q|q
   ·exact BO ha' q hx hy
   ·have old:∀z,(z,a)∈cellsFrom (n+1) r ((w,n)::acc)→(z,a)∈(w,n)::acc:=fun z e=>by
     have key:∀{names:List (Str×NameKind)} {k:Addr} {acc:List (Str×Addr)},(z,a)∈cellsFrom k names acc→(z,a)∈acc∨k≤a:=by
      intro names
      induction names with
      |nil=>intro k acc e;exact .inl e
      |cons p r ih=>
       obtain⟨u,kk⟩:=p
       intro k acc e
       unfold cellsFrom at e
       split at e
       ·rcases ih e with e|e
        ·rcases List.mem_cons.mp e with e|e
         ·cases e;exact .inr (Nat.le_refl _)
         ·exact .inl e
        ·exact .inr (Nat.le_of_succ_le e)
       ·exact ih e
     rcases key e with e|e
     ·exact e
     ·exact absurd e (by rw[←q];exact Nat.not_succ_le_self _)
    have hd:∀z,(z,a)∈(w,n)::acc→z=w:=fun z e=>by
     clear old hy hx;rcases List.mem_cons.mp e with e|e
     clear q ha;· cases e;rfl
     ·exact absurd (ha z a e) (by rw[←q];exact Nat.lt_irrefl _)
    simp only[hd x (old x hx),hd y (old y hy)]
  ·rename_i hk
   rewrite [if_neg hk]at hy
   exact BO ha hn hx hy
theorem DQ {M:Model}{A:Around}{E:Value→Shared→Prop}{s:Shared}{scope:Scope}{cl:List (Str×Addr)}{env:Env}{Q:Env→Shared→Prop}
  (h:Q {scope:=scope,locals:=s.heap.objs.size,globals:=env.globals,cells:=cellsFrom (s.heap.objs.size+1) scope.names cl,qual:=env.qual,func:=none,code:=env.code,frame:=env.frame,builtins:=env.builtins} {s with heap:=pushCells (s.heap.push {cls:=.type "dict",data:=.dict #[]}) scope.names}):
  wpAny M A (newFunctionEnv scope env.globals cl [] env.qual none .none (some env)) Q E s:=by
 simp only[newFunctionEnv,Option.isSome_some,if_true]
 refine wpAny_bind (wpAny_alloc ?_)
 refine wpAny_bind (wpAny_layCells _ (fun name kind cells=>by cases hkc:kind==NameKind.cell<;>simp) _ _ _ _ ?_)
 rw[show({s with heap:=s.heap.push {cls:=.type "dict",data:=.dict #[]}}:Shared).heap.objs.size=s.heap.objs.size+1 from Heap.size_push ..]
 refine wpAny_bind ?_
 simp only[List.forIn_nil]
 exact wpAny_pure (wpAny_pure h)
theorem GC {scope:Scope}{env:Env}(h:∀x,(x,NameKind.free)∈scope.names→∃a,env.cells.lookup x=some a):
  ∃cl,closureFor scope env=pure cl∧(∀x a,(x,a)∈cl→env.cells.lookup x=some a∧(x,NameKind.free)∈scope.names)∧∀x,(x,NameKind.free)∈scope.names→∃a,(x,a)∈cl:=by
 have key:∀(names:List (Str×NameKind)) (acc:List (Str×Addr)),(∀x,(x,NameKind.free)∈names→∃a,env.cells.lookup x=some a)→(∀x a,(x,a)∈acc→env.cells.lookup x=some a)→
   ∃cl,(forIn (m:=Sem) names acc fun(p:Str×NameKind) (r:List (Str×Addr))=>(if(p.2==NameKind.free)=true then do let a ←cellOf env p.1;pure (ForInStep.yield ((p.1,a)::r))else pure (ForInStep.yield r)))=pure cl∧(∀x a,(x,a)∈cl→env.cells.lookup x=some a)∧(∀x,(x,NameKind.free)∈names→∃a,(x,a)∈cl)∧(∀p∈acc,p∈cl)∧∀x a,(x,a)∈cl→(x,NameKind.free)∈names∨(x,a)∈acc:=by
  intro names
  induction names with
  |nil=>intro acc _ ha;exact⟨acc,rfl,ha,(fun x e=>nm e),(fun p e=>e),fun x a e=>.inr e⟩
  |cons p r ih=>
   intro acc hf ha
   obtain⟨y,k⟩:=p
   simp only[List.forIn_cons]
   by_cases hk:k=.free
   ·refine q1 k ?_;intro Q;subst hk
    obtain⟨a,ea⟩:=hf y (.head _)
    obtain⟨cl,e1,e2,e3,e4,e5⟩:=ih ((y,a)::acc) (fun x e=>hf x (.tail _ e)) (fun x b e=>by
     rcases List.mem_cons.mp e with e|e
     ·cases e;exact ea
     ·exact ha x b e)
    refine⟨cl,?_,e2,fun x e=>?_,fun p e=>e4 p (.tail _ e),fun x b e=>?_⟩
    rotate_left 2
    ·rcases e5 x b e with q|q
     ·exact .inl (.tail _ q)
     ·rcases List.mem_cons.mp q with q|q
      ·cases q;exact .inl (.head _)
      ·exact .inr q
    ·rw[if_pos (by rfl)]
     have:cellOf env y=pure a:=by unfold cellOf;rw[ea]
     rw[this]
     exact e1
    ·rcases List.mem_cons.mp e with e|e
     ·cases e;exact⟨a,e4 _ (.head _)⟩
     ·exact e3 x e
   ·refine q1 k ?_;intro Q;obtain⟨cl,e1,e2,e3,e4,e5⟩:=ih acc (fun x e=>hf x (.tail _ e)) ha
    clear hf;refine⟨cl,?_,e2,fun x e=>?_,e4,fun x b e=>(e5 x b e).elim (fun q=>.inl (.tail _ q)) .inr⟩
    ·rw[if_neg (by simpa using hk)]
     exact e1
    ·rcases List.mem_cons.mp e with e|e
     ·cases e;exact absurd rfl hk
     ·exact e3 x e
 obtain⟨cl,e1,e2,e3,_,e5⟩:=key scope.names [] h (fun Z Z=>nm)
 refine⟨cl,?_,fun x a e=>⟨e2 x a e,(e5 x a e).elim (fun q=>q) fun q=>nm q⟩,e3⟩
 unfold closureFor
 rw[bind_pure]
 exact e1
end Mine.Tactic
namespace Mine.Tactic
theorem YV {j:Nat}:∀{is:List Nat} {ρ:Lc},Ya (YN is ρ) j=if j∈is then .unb else Ya ρ j
 |[],ρ=>rfl
 |i::is,ρ=>by
  show Ya (YN is (QW ρ i .unb)) j=_
  rw[YV,Z8]
  by_cases h1:j∈is
  ·rw[if_pos h1,if_pos (.tail _ h1)]
  ·rw[if_neg h1]
   by_cases h2:j=i
   ·subst h2
    have hm:j∈j::is:=.head _
    rw[if_pos rfl,if_pos hm]
    split<;>rfl
   ·rw[if_neg h2,if_neg (by rw[List.mem_cons,not_or];exact⟨h2,h1⟩)]
theorem GM {α:Type}{x:Str}{a:α}{l:List (Str×α)}(h:∀b,(x,b)∈l→b=a)(he:∃b,(x,b)∈l):l.lookup x=some a:=by
 obtain⟨b,hb⟩:=he
 obtain⟨a',e⟩:=Option.isSome_iff_exists.mp (Jw hb)
 simp only[e,h a' (PySem.mem_of_lookup e)]
theorem NW {α:Type}{x:Str}{l:List (Str×α)}(he:∃b,(x,b)∈l):∃a,l.lookup x=some a∧(x,a)∈l:=by
 obtain⟨b,hb⟩:=he
 obtain⟨a',e⟩:=Option.isSome_iff_exists.mp (Jw hb)
 exact⟨a',e,PySem.mem_of_lookup e⟩
def WO (env:Env)(xs:List Str)(b:Addr):Prop:=b=env.locals∨∃x∈xs,env.kindOf x=some .cell∧env.cells.lookup x=some b
theorem WO.of {env:Env}{xs:List Str}{x:Str}(hx:x∈xs):∀b,WX env x b→WO env xs b:=fun b w=>by
 rcases w with ⟨_,e⟩|⟨k,e⟩
 ·exact .inl e
 ·exact .inr ⟨x,hx,k,e⟩
theorem WO.wf {env:Env}{xs:List Str}:∀b,WO env xs b→WF env b:=fun b w=>by
 rcases w with e|⟨x,_,_,e⟩
 ·exact .inl e
 ·exact .inr ⟨x,e⟩
def UR (scope:Scope)(env:Env)(L:Addr)(cs:List (Str×Addr)):Env:=
 {scope:=relabel scope env,locals:=L,globals:=env.globals,cells:=cs,qual:=env.qual,func:=none,code:=env.code,frame:=env.frame,builtins:=env.builtins}
section
variable {c:Cx} {C:CT} {d:Nat} {sc scope:Scope} {V V':Vw} {m m₁ m₂:Mp} {σ σ₁ σ₂:H} {s s₁ s₂:Shared} {W:Addr→Prop} {env:Env} {ρ ρ':Lc} {A:Around} {own:List Nat}
theorem FT {xs:List Str}{cl:List (Str×Addr)}(K:WY sc scope V V' own)(hxs:∀x∈xs,(x,NameKind.free)∉scope.names)(O:Ym c sc V env)(R:Rep c m σ s.heap)(F:Frm c m σ s.heap V env ρ)
  (h2':∀x a,(x,a)∈cl→env.cells.lookup x=some a∧(x,NameKind.free)∈scope.names) (h3:∀x,(x,NameKind.free)∈scope.names→∃a,(x,a)∈cl):
  let env':=UR scope env s.heap.objs.size (cellsFrom (s.heap.objs.size+1) scope.names cl)
  let h':=pushCells (s.heap.push {cls:=.type "dict",data:=.dict #[]}) scope.names
  Ym c (QI scope sc) V' env'∧Frm c m σ h' V' env' (YN own ρ)∧(∀b o,s.heap.get? b=some o→h'.get? b=some o)∧(∀b,WO env' xs b→s.heap.get? b=none)∧(∀b,WF env' b→s.heap.get? b=none∨WF env b):=by
 intro env' h'
 have h2:∀x a,(x,a)∈cl→env.cells.lookup x=some a:=fun x a e=>(h2' x a e).1
 have kp:∀b o,s.heap.get? b=some o→h'.get? b=some o:=fun b o e=>pushCells_keeps _ _ b o (Heap.get?_push_of_some _ e)
 have hN:∀a,s.heap.objs.size≤a→s.heap.get? a=none:=fun a ha=>Heap.get?_none_of_le ha
 have hL:∀a,s.heap.objs.size≤a→c.g.get? a=none:=fun a ha=>by
  cases z:c.g.get? a with
  |none=>rfl
  |some o=>exact absurd (Heap.lt_size (R.base _ _ z)) (Nat.not_lt.mpr ha)
 have hsz:(s.heap.push {cls:=.type "dict",data:=.dict #[]}).objs.size=s.heap.objs.size+1:=Heap.size_push ..
 have fact:∀x a,(x,a)∈env'.cells→(x,a)∈cl∨((x,NameKind.cell)∈scope.names∧s.heap.objs.size+1≤a∧h'.IsCell a none):=fun x a e=>by
  have e':(x,a)∈cellsFrom (s.heap.push {cls:=.type "dict",data:=.dict #[]}).objs.size scope.names cl:=by rw[hsz];exact e
  have:=Wn e'
  rw[hsz]at this
  exact this
 have capt:∀x a,(x,a)∈cl→a<s.heap.objs.size:=fun x a e=>by
  obtain⟨ov,o,ho,_⟩:=F.isC x a (h2 x a e)
  exact Heap.lt_size ho
 have hEk:∀z,env'.kindOf z=(QI scope sc).names.lookup z:=fun z=>by
  show(relabel scope env).names.lookup z=_
  rw[UJ,O.scp]
 have hns:h'.Ns s.heap.objs.size (fun Z=>none):=(Heap.Ns.new s.heap (.type "dict")).keeps (pushCells_keeps _ _)
 have offN:∀a,s.heap.objs.size≤a→∀l,l<σ.length→m.μ l≠a:=fun a ha l hl q=>by
  obtain⟨o,e,_⟩:=R.mut hl
  have:=Heap.lt_size e
  rw[q]at this;exact absurd this (Nat.not_lt.mpr ha)
 refine⟨⟨by show relabel scope env=_;simp only[UJ,O.scp],K.kind,O.glb,O.blt,hL _ (Nat.le_refl _),fun x a e=>?_,fun x y a e e'=>?_,fun i j x a b=>OE K.once a b,fun i x y a b=>On K.fst a b⟩,⟨⟨_,hns⟩,fun i x hx=>?_,offN _ (Nat.le_refl _),fun x a e=>?_,fun x a e=>?_⟩,kp,fun b w=>?_,fun b w=>?_⟩
 ·rcases fact x a (PySem.mem_of_lookup e)with q|⟨_,q,_⟩
  ·exact⟨(O.cells x a (h2 x a q)).1,Nat.ne_of_lt (capt x a q)⟩
  ·exact⟨hL _ (Nat.le_of_succ_le q),Nat.ne_of_gt q⟩
 ·have m1:=PySem.mem_of_lookup e
  have m2:=PySem.mem_of_lookup e'
  rcases fact x a m1 with q|⟨_,q,_⟩<;>rcases fact y a m2 with q'|⟨_,q',_⟩
  ·exact O.inj x y a (h2 x a q) (h2 y a q')
  ·exact absurd (capt x a q) (Nat.not_lt.mpr (Nat.le_of_succ_le q'))
  ·exact absurd (capt y a q') (Nat.not_lt.mpr (Nat.le_of_succ_le q))
  ·exact BO (fun z b e=>Nat.lt_succ_of_lt (capt z b e)) q m1 m2
 ·rcases K.view _ hx with ⟨ho,k|⟨k,kc,kf⟩⟩|⟨ho,hV,kf,kc,k⟩
  ·exact .inl ⟨(hEk x).trans k,_,hns,fun nu=>absurd (by rw[YV,if_pos ho]) nu⟩
  ·obtain⟨a,e,me⟩:=NW (Zh (n:=s.heap.objs.size+1) (acc:=cl) (.inl kc))
   rcases fact x a me with q|⟨_,_,q⟩
   ·have:=h2 x a q
    exact .inr ⟨.inl ((hEk x).trans k),a,(F.isC x a this).choose,e,(F.isC x a this).choose_spec.keeps kp,fun nu=>absurd (by rw[YV,if_pos ho]) nu⟩
   ·exact .inr ⟨.inl ((hEk x).trans k),a,none,e,q,fun nu=>absurd (by rw[YV,if_pos ho]) nu⟩
  ·obtain⟨a0,ha0⟩:=h3 x kf
   have hl:env'.cells.lookup x=env.cells.lookup x:=by
    rw[h2 x a0 ha0]
    refine GM (fun b e=>?_) (Zh (.inr ⟨a0,ha0⟩))
    rcases fact x b e with q|⟨q,_⟩
    ·have:=h2 x b q
     rw[h2 x a0 ha0]at this
     injection this with this
     exact this.symm
    ·exact absurd q kc
   rcases F.var i x hV with ⟨k',_⟩|⟨_,a,ov,el,ic,b⟩
   ·have:env.kindOf x=some .cell:=by show env.scope.names.lookup x=_;rw[O.scp];exact(K.free x kf).1
    rw[this]at k';cases k'
   ·refine .inr ⟨.inl ((hEk x).trans k),a,ov,hl.trans el,ic.keeps kp,fun nu=>?_⟩
    rw[YV,if_neg ho]at nu ⊢
    obtain⟨v,e1,e2⟩:=b nu
    exact⟨v,e1,e2.grow kp⟩
 ·rcases fact x a (PySem.mem_of_lookup e)with q|⟨_,q,_⟩
  ·exact F.offC x a (h2 x a q)
  ·exact offN a (Nat.le_of_succ_le q)
 ·rcases fact x a (PySem.mem_of_lookup e)with q|⟨_,_,q⟩
  ·obtain⟨ov,ic⟩:=F.isC x a (h2 x a q)
   exact⟨ov,ic.keeps kp⟩
  ·exact⟨_,q⟩
 ·rcases w with rfl|⟨x,hx,k,e⟩
  ·exact hN _ (Nat.le_refl _)
  ·rcases fact x b (PySem.mem_of_lookup e)with q|⟨_,q,_⟩
   ·exact absurd (h2' x b q).2 (hxs x hx)
   ·exact hN _ (Nat.le_of_succ_le q)
 ·rcases w with rfl|⟨x,e⟩
  ·exact .inl (hN _ (Nat.le_refl _))
  ·rcases fact x b (PySem.mem_of_lookup e)with q|⟨_,q,_⟩
   ·exact .inr (.inr ⟨x,h2 x b q⟩)
   ·exact .inl (hN _ (Nat.le_of_succ_le q))
end
end Mine.Tactic
namespace Mine.Tactic
noncomputable abbrev Hx (ifs:List PySem.Expr) (env:Env):Sem Bool:=forIn ifs true fun c r=>if r=true then do let ok ←isTrue c env (eval c env);pure (ForInStep.yield ok)else pure (ForInStep.yield r)
section
variable {prog:Program} {w:World} {A:Around} {R:Result→Shared→Prop} {s:Shared}
theorem Uf {elt target iter:PySem.Expr}{ifs:List PySem.Expr}{gens:List Comprehension}{depth:Nat}{scope:Scope}{pos:Pos}{it acc:Value}{env:Env}{body:Sem PySem.Fin}{L:Code}(I:Nat→Shared→Prop)
  (hL:.compLoop (.ListComp elt gens scope pos) depth it acc env=L)
  (hT:compTurn (.ListComp elt gens scope pos) depth it acc env=(do
   standAt iter.pos
   match ←pyNext it with
   |none=>pure (.done .next)
   |some v=>
    letOwnedTupleGo target it v
    assign target env v
    let mut ok:=true
    for c in ifs do
     if ok then ok ←isTrue c env (eval c env)
    if ok then body else again L))
  (turn:∀n s,I n s→wpAny (model prog w) A (pyNext it) (fun r s₁=>match r with
   |none=>R (.ok .next) s₁
   |some v=>wpAny (model prog w) A (letOwnedTupleGo target it v) (fun Z s₁'=>wpAny (model prog w) A (assign target env v) (fun Z s₂=>
     wpAny (model prog w) A (Hx ifs env) (fun ok s₃=>match ok with
      |true=>wpAny (model prog w) A body (fun fin s₅=>fin=.again L∧∃m,m<n∧I m s₅) (fun Z Z=>False) s₃
      |false=>∃m,m<n∧I m s₃) (fun Z Z=>False) s₂) (fun Z Z=>False) s₁') (fun Z Z=>False) s₁) (fun Z Z=>False) s)
  (n:Nat) (h:I n s):codeAny (model prog w) A L R s:=by
 subst hL
 refine codeAny_loop rfl I (fun n s hI=>?_) n h
 show wpAny _ A ((compTurn (.ListComp elt gens scope pos) depth it acc env).onRaise (fun x=>do noteFrame x env;theTreesLotGoes x)) _ _ s
 refine wpAny_noted ?_
 rw[hT]
 refine wpAny_bind (wpAny_standAt (wpAny_bind (Qy (turn n s hI) fun r s₁ h₁=>?_)))
 cases r with
 |none=>exact wpAny_pure h₁
 |some v=>
  refine wpAny_bind (Qy h₁ fun Z s₁' h₁'=>wpAny_bind (Qy h₁' fun Z s₂ h₂=>wpAny_bind (Qy h₂ fun ok s₃ h₃=>?_)))
  cases ok with
  |false=>exact wpAny_pure ⟨rfl,h₃⟩
  |true=>exact Qy h₃ fun fin s₅ h₅=>by obtain⟨rfl,h₅⟩:=h₅;exact⟨rfl,h₅⟩
end
section
variable {c:Cx} {C:CT} {d:Nat} {sc scope:Scope} {V V':Vw} {m m₁ m₂:Mp} {σ σ₁ σ₂:H} {s s₁ s₂:Shared} {W:Addr→Prop} {env:Env} {ρ ρ':Lc} {A:Around} {own:List Nat}
theorem Oj:∀{es:List PySem.Expr} {Q:Bool→Shared→Prop} {E:Value→Shared→Prop},Q false s→wpAny (model c.prog c.w) A (forIn es false fun c r=>if r=true then do let ok ←isTrue c env (eval c env);pure (ForInStep.yield ok)else pure (ForInStep.yield r)) Q E s
 |[],_,_,h=>by simp only[List.forIn_nil];exact wpAny_pure h
 |e::es,_,_,h=>by
  rw[List.forIn_cons]
  exact wpAny_bind (wpAny_pure (Oj h))
theorem PG {es:List PySem.Expr}{fs:List TX}(L:ZS c C d sc V es fs):∀{s:Shared} {m:Mp} {σ σ':H} {b:Bool},Ym c sc V env→AOk d A→Rep c m σ s.heap→Frm c m σ s.heap V env ρ→Yk fs C c.ns ρ σ=some (b,σ')→
  wpAny (model c.prog c.w) A (Hx es env) (fun b' s'=>b'=b∧Yg c m σ s (fun Z Z Z=>True) W0 σ' s') (fun Z Z=>False) s:=by
 induction L with
 |nil=>intro s m σ σ' b Z Z R Z h;cases h;exact wpAny_pure ⟨rfl,.at (.refl R) trivial⟩
 |cons S L ih=>
  intro s m σ σ' b O AK R F h
  obtain⟨q,σ₁,e1,h⟩:=Qh h
  show wpAny _ _ (forIn (_::_) true _) _ _ _
  rw[List.forIn_cons,if_pos rfl]
  refine wpAny_bind (wpAny_bind (S.one O AK R F e1 fun m₁ s₁ x1=>wpAny_pure ?_))
  clear e1;cases q with
  |true=>exact Qy (ih O AK x1.rep (x1.frm R F) h) fun Z Z y=>⟨y.1,.of x1 y.2⟩
  |false=>refine q2 σ' b ?_;intro Q;cases h;exact Oj ⟨rfl,.at x1 trivial⟩
theorem Frm.sub {h:Heap}(F:Frm c m σ h V env ρ)(hs:∀i x,(i,x)∈V→Ya ρ' i=.unb∨Ya ρ' i=Ya ρ i):Frm c m σ h V env ρ':=
 ⟨F.ns,fun i x hx=>by
  rcases hs i x hx with e|e
  ·rw[e]
   rcases F.var i x hx with ⟨k,mm,a,_⟩|⟨k,a,ov,el,ic,_⟩
   ·exact .inl ⟨k,mm,a,fun nu=>absurd rfl nu⟩
   ·exact .inr ⟨k,a,ov,el,ic,fun nu=>absurd rfl nu⟩
  ·rw[e];exact F.var i x hx,F.offL,F.offC,F.isC⟩
theorem Frm.ext {h h':Heap}{a:Addr}(F:Frm c m σ h V env ρ)(kk:∀b o,b≠a→h.get? b=some o→h'.get? b=some o)(tk:YD h h')(na:env.locals≠a)(nc:∀x b,env.cells.lookup x=some b→b≠a):Frm c m σ h' V env ρ:=by
 obtain⟨mm,hn2⟩:=F.ns
 refine⟨⟨mm,?_⟩,fun j y hy=>(F.var j y hy).mono tk (Mp.Ext.refl _ _) (Nat.le_refl _) (fun o e=>kk _ _ na e) (fun b o e ho=>kk _ _ (nc y b e) ho),F.offL,F.offC,fun y b e=>?_⟩
 ·obtain⟨o,es,ep,e,r⟩:=hn2
  exact⟨o,es,ep,kk _ _ na e,r⟩
 ·obtain⟨ov,o,ho,hd⟩:=F.isC y b e
  exact⟨ov,o,kk _ _ (nc y b e) ho,hd⟩
theorem U6:∀{is:List Nat} {ps:List PV} {ρ ρ':Lc} {j:Nat},Yx is ps ρ=some ρ'→j∉is→Ya ρ' j=Ya ρ j
 |[],[],_,_,_,h,_=>by cases h;rfl
 |[],_::_,_,_,_,h,_=>by cases h
 |_::_,[],_,_,_,h,_=>by cases h
 |i::is,p::ps,ρ,_,j,h,hj=>by
  rw[List.mem_cons,not_or]at hj
  rw[U6 (is:=is) (ps:=ps) h hj.2,Z8,if_neg hj.1]
theorem Dh {t:Tg}{p:PV}{j:Nat}(h:ZY t p ρ=some ρ')(hj:j∉QX t):Ya ρ' j=Ya ρ j:=by
 cases t with
 |one i=>
  cases h
  rw[Z8,if_neg fun e=>hj (by rw[e];exact .head _)]
 |many is=>
  obtain⟨ps,rfl,h⟩:=OZ h
  exact U6 h hj
theorem Frm.back {h:Heap}{t:Tg}{p:PV}(F:Frm c m σ h V env ρ')(hp:ZY t p ρ=some ρ')(hU:∀i∈QX t,Ya ρ i=.unb):Frm c m σ h V env ρ:=F.sub fun i x Z=>by
 by_cases q:i∈QX t
 ·exact .inl (hU i q)
 ·exact .inr (Dh hp q).symm
theorem LN {k:Nat}{f:EX}{u:Unit}(h:MA k f C c.ns ρ σ=some (u,σ₂)):∃p σ₁,f C c.ns ρ σ=some (p,σ₁)∧J8 (.loc k) p σ₁=some (.none,σ₂):=by
 refine q1 σ₂ ?_;intro Q;obtain⟨p,σ₁,e1,h⟩:=Qh h
 obtain⟨r,σ',e2,h⟩:=Qh h
 cases h
 clear h;refine⟨p,σ₁,e1,?_⟩
 obtain⟨l,Z,e3⟩:=Zr e2
 have:r=.none:=by clear e2;obtain⟨Z,e3⟩:=Q1 e3;cases e3;rfl
 rw[←this];exact e2
inductive V2 (c:Cx) (W:Addr→Prop) (V':Vw) (env':Env) (m:Mp) (σ:H) (s0:Shared) (k:Nat) (acc:Addr) (ρ0:Lc) (σ':H) (s':Shared):Prop
 |mk (m₂:Mp) (u:Upd s0 s') (S:Stp c W m σ s0.heap m₂ σ' s'.heap) (F:Frm c m₂ σ' s'.heap V' env' ρ0) (hk:k<σ'.length) (hφ:m₂.φ k=acc)
inductive CoI (c:Cx) (W:Addr→Prop) (V':Vw) (env':Env) (m:Mp) (σ:H) (s0:Shared) (a acc:Addr) (k:Nat) (src:Src) (ρ0:Lc) (t:Tg) (ifs:TX) (fb:CT→List Int→Lc→H→R Unit) (C:CT) (σ':H) (n:Nat) (s:Shared):Prop
 |mk (m₂:Mp) (σ₂:H) (i:Nat) (u:Upd s0 s) (K:Wk c W m σ s0.heap m₂ σ₂ s.heap a) (I:Zd c m₂ σ₂.length s.heap a src i) (F:Frm c m₂ σ₂ s.heap V' env' ρ0) (hk:k<σ₂.length) (hφ:m₂.φ k=acc) (e:QZ t ifs fb n src i C c.ns ρ0 σ₂=some ((),σ'))
theorem Nl {elt target iter:PySem.Expr}{ifs:List PySem.Expr}{gens:List Comprehension}{depth:Nat}{pos:Pos}{t:Tg}{fifs:List TX}{fbody:CT→List Int→Lc→H→R Unit}{body:Sem PySem.Fin}{env':Env}{xs:List Str}{ρ0:Lc}{a acc:Addr}{k n:Nat}{src:Src}{s0:Shared}{sc':Scope}{σ':H}{L:Code}{R:Result→Shared→Prop}
  (hL:.compLoop (.ListComp elt gens scope pos) depth (.ref a) (.ref acc) env'=L)
  (hT:compTurn (.ListComp elt gens scope pos) depth (.ref a) (.ref acc) env'=(do
   standAt iter.pos
   match ←pyNext (.ref a)with
   |none=>pure (.done .next)
   |some v=>
    letOwnedTupleGo target (.ref a) v
    assign target env' v
    let mut ok:=true
    for c in ifs do
     if ok then ok ←isTrue c env' (eval c env')
    if ok then body else again L))
  (T:Y7 c sc' V' target t) (ht:Jk target) (hxs:∀x∈YE target,x∈xs) (TL:ZS c C d sc' V' ifs fifs)
  (O:Ym c sc' V' env') (AK:AOk d A) (R0:Rep c m σ s0.heap) (hU:∀i∈QX t,Ya ρ0 i=.unb) (nWa:¬WF env' a)
  (hB:∀{s₅:Shared} {m₅:Mp} {σ₅ σ₇:H} {ρ₃:Lc},Rep c m₅ σ₅ s₅.heap→Frm c m₅ σ₅ s₅.heap V' env' ρ₃→(∀j,j∉QX t→Ya ρ₃ j=Ya ρ0 j)→k<σ₅.length→m₅.φ k=acc→fbody C c.ns ρ₃ σ₅=some ((),σ₇)→
   wpAny (model c.prog c.w) A body (fun fin s₇=>fin=.again L∧∃m₇,Aft c (WO env' xs) m₅ σ₅ s₅ m₇ σ₇ s₇∧Frm c m₇ σ₇ s₇.heap V' env' ρ₃) (fun Z Z=>False) s₅)
  (hR:∀s',V2 c (WO env' xs) V' env' m σ s0 k acc ρ0 σ' s'→R (.ok .next) s')
  (I0:CoI c (WO env' xs) V' env' m σ s0 a acc k src ρ0 t (Yk fifs) fbody C σ' n s):codeAny (model c.prog c.w) A L R s:=by
 have nW:¬WO env' xs a:=fun w=>nWa (WO.wf a w)
 refine Uf (CoI c (WO env' xs) V' env' m σ s0 a acc k src ρ0 t (Yk fifs) fbody C σ') hL hT (fun n s I=>?_) n I0
 clear I0 hT hL
 obtain⟨m₂,σ₂,i,hS,K,It,F,hk,hφ,h⟩:=I
 cases n with
 |zero=>refine q0 ?_;intro Q;cases h
 |succ n=>
  refine q0 ?_;intro Q;rw[JS]at h
  split at h
  ·refine q0 ?_;intro Q;rename_i p hsrc
   refine Qy (ZQ hsrc AK K.stp.rep K R0 nW It) fun r s₃ z=>?_
   apply NxP.one z;intro v u3 hv K3 S3 tk3 It3
   refine Pf ht It3 ?_
   have F3:=F.stpW S3 tk3 (fun q=>nWa (.inl q.symm)) (fun y b e q=>nWa (.inr ⟨y,q▸e⟩))
   obtain⟨ρ₃,hput,h⟩:=omL h
   ·refine Qy (T (fun x hx=>WO.of (hxs x hx)) WO.wf O AK K3.stp.rep F3 hv hput) fun Z s₄ z=>?_
    obtain⟨m₄,x4,F4⟩:=Yg.aft z
    have It4:=Wq K3 x4.stp (x4.stp.tup K3.stp.rep fun b its w=>WF.no_tup F3 b its (WO.wf b w)) nW It3
    have K4:=K3.step x4.stp (let ⟨o,e,_⟩:=It3.obj;⟨o,e⟩)
    obtain⟨b,σ₅,e5,h⟩:=Qh h
    refine Qy (PG TL O AK x4.rep F4 e5) fun ok s₅ z=>?_
    clear e5;obtain⟨rfl,z⟩:=z
    obtain⟨m₅,x5⟩:=xpT z
    have F5:=x5.frm x4.rep F4
    have S5:=x5.stp.weak (W':=WO env' xs) fun Z w=>w.elim
    have It5:=Wq K4 S5 (x5.stp.tup0 x4.rep) nW It4
    have K5:=K4.step S5 (let ⟨o,e,_⟩:=It4.obj;⟨o,e⟩)
    have k5:k<σ₅.length:=Nat.lt_of_lt_of_le (Nat.lt_of_lt_of_le hk x4.stp.len) S5.len
    have φ5:m₅.φ k=acc:=(S5.ext k (Nat.lt_of_lt_of_le hk x4.stp.len)).1.trans ((x4.stp.ext k hk).1.trans hφ)
    have u5:=hS.trans (u3.trans (x4.upd.trans x5.upd))
    cases ok with
    |false=>exact⟨n,Nat.lt_succ_self _,m₅,σ₅,i+1,u5,K5,It5,F5.back hput hU,k5,φ5,h⟩
    |true=>
     obtain⟨u,σ₇,e7,h⟩:=Qh h
     refine Qy (hB x5.rep F5 (fun j hj=>Dh hput hj) k5 φ5 e7) fun fin s₇ z=>?_
     obtain⟨q,m₇,x7,F7⟩:=z
     exact⟨q,n,Nat.lt_succ_self _,m₇,σ₇,i+1,u5.trans x7.upd,K5.step x7.stp (let ⟨o,e,_⟩:=It5.obj;⟨o,e⟩),Wq K5 x7.stp (x7.stp.tup x5.rep fun b its w=>WF.no_tup F5 b its (WO.wf b w)) nW It5,F7.back hput hU,Nat.lt_of_lt_of_le k5 x7.stp.len,(x7.stp.ext k k5).1.trans φ5,h⟩
  ·rename_i hsrc
   cases h
   refine Qy (ZQ hsrc AK K.stp.rep K R0 nW It) fun r s₃ z=>?_
   apply NxP.nil z;intro u3 S3 tk3 kk
   exact hR _ ⟨m₂,hS.trans u3,S3,F.ext kk tk3 (fun q=>nWa (.inl q.symm)) (fun y b e q=>nWa (.inr ⟨y,q▸e⟩)),hk,hφ⟩
  ·cases h
theorem DS {L:Code}{elt:PySem.Expr}{felt:EX}{env':Env}{xs:List Str}{sc':Scope}{acc:Addr}{k:Nat}(Se:Snd c C d sc' V' elt felt)(O:Ym c sc' V' env')(AK:AOk d A)(R:Rep c m σ s.heap)(F:Frm c m σ s.heap V' env' ρ)(hk:k<σ.length)(hφ:m.φ k=acc)(h:MA k felt C c.ns ρ σ=some ((),σ₂)):
  wpAny (model c.prog c.w) A ((do let _ ←call (.builtin "list.append") [.ref acc,←eval elt env']:Sem Unit)>>= fun Z=>again L) (fun fin s₇=>fin=.again L∧∃m₇,Aft c (WO env' xs) m σ s m₇ σ₂ s₇∧Frm c m₇ σ₂ s₇.heap V' env' ρ) (fun Z Z=>False) s:=by
 obtain⟨q,σ₆,e6,e7⟩:=LN h
 refine wpAny_bind (wpAny_bind (Se.one O AK R F e6 fun m₆ y s₆ x6 y6=>wpAny_bind ?_))
 refine Qy (Go (d:=d) AK x6.rep (p:=.loc k) (v:=.ref acc) (by exact⟨Nat.lt_of_lt_of_le hk x6.stp.len,by simp only[(x6.stp.ext k hk).1,hφ]⟩) y6 e7) fun Z s₇ z=>wpAny_pure (wpAny_pure ?_)
 obtain⟨m₇,x7,_⟩:=QF.aft z
 have x67:=x6.trans x7
 exact⟨rfl,m₇,x67.weak fun Z w=>w.elim,x67.frm R F⟩
theorem Ox (elt t1 i1:PySem.Expr)(ifs:List PySem.Expr)(scope:Scope)(pos:Pos)(it acc:Value)(env:Env):
 compTurn (.ListComp elt [⟨t1,i1,ifs,0⟩] scope pos) 0 it acc env=(do
  standAt i1.pos
  match ←pyNext it with
  |none=>pure (.done .next)
  |some v=>
   letOwnedTupleGo t1 it v
   assign t1 env v
   let mut ok:=true
   for c in ifs do
    if ok then ok ←isTrue c env (eval c env)
   if ok then((do let _ ←call (.builtin "list.append") [acc,←eval elt env]:Sem Unit)>>= fun Z=>again (.compLoop (.ListComp elt [⟨t1,i1,ifs,0⟩] scope pos) 0 it acc env))
   else again (.compLoop (.ListComp elt [⟨t1,i1,ifs,0⟩] scope pos) 0 it acc env)):=by rfl
end
end Mine.Tactic
namespace Mine.Tactic
section
variable {c:Cx} {C:CT} {d:Nat} {sc scope:Scope} {V V':Vw} {m m₁ m₂:Mp} {σ σ₁ σ₂:H} {s s₁ s₂:Shared} {W:Addr→Prop} {env:Env} {ρ ρ':Lc} {A:Around} {own:List Nat}
theorem KR (R:Rep c m σ s.heap):wpAny (model c.prog c.w) A (newList []) (fun v s'=>∃acc m₂,v=.ref acc∧Aft c W0 m σ s m₂ (σ++[.lst []]) s'∧m₂.φ σ.length=acc∧∀b o,s.heap.get? b=some o→s'.heap.get? b=some o) (fun Z Z=>False) s:=by
 refine wpAny_newList ?_ (Nat.zero_le _)
 obtain⟨m₂,x2,y2⟩:=QF.aft (QF.pushL (ps:=[]) (vs:=[]) (t:=s.toks) R rfl)
 exact⟨_,m₂,rfl,x2,(Value.ref.inj y2.2).symm,fun b o e=>YW _ _ _ _ e⟩
structure Hd (c:Cx) (sc':Scope) (V':Vw) (xs:List Str) (m:Mp) (σ:H) (s:Shared) (m₁:Mp) (σ₁:H) (s₁:Shared) (ρ0:Lc) (env':Env) (m₂:Mp) (acc:Addr) (s₂:Shared):Prop where
 O:Ym c sc' V' env'
 u:Upd s s₂
 S:Stp c W0 m σ s.heap m₂ (σ₁++[.lst []]) s₂.heap
 F:Frm c m₂ (σ₁++[.lst []]) s₂.heap V' env' ρ0
 kp:∀b o,s₁.heap.get? b=some o→s₂.heap.get? b=some o
 nW:∀b o,s₁.heap.get? b=some o→s.heap.get? b=none→¬WF env' b
 off:∀b o,s₁.heap.get? b=some o→(∀l,l<σ₁.length→m₁.μ l≠b)→∀l,l<(σ₁++[AO.lst []]).length→m₂.μ l≠b
 ext:m₁.Ext m₂ σ₁.length
 hφ:m₂.φ σ₁.length=acc
inductive AG (c:Cx) (m:Mp) (σ:H) (s:Shared) (k:Nat) (acc a:Addr) (σ':H) (s':Shared):Prop
 |mk (m₂:Mp) (mm:Str→Option Value) (hn:s'.heap.Ns a mm) (S:Stp c W0 m σ s.heap m₂ σ' s'.heap) (hk:k<σ'.length) (hφ:m₂.φ k=acc) (u:Upd s s') (new:s.heap.get? a=none) (off:∀l,l<σ'.length→m₂.μ l≠a) (nl:c.g.get? a=none)
theorem Nv {elt target iter:PySem.Expr}{ifs:List PySem.Expr}{rest:List Comprehension}{pos p':Pos}{use:Option (Value→Sem Unit)}{Q:Value→Shared→Prop}{xs:List Str}{FST:Addr→Mp→Shared→Prop}
  (K:WY sc scope V V' own) (hxs:∀x∈xs,(x,NameKind.free)∉scope.names) (hs:∀env x,env.scope=sc→foldedSetIterable iter env x=pure x)
  (O:Ym c sc V env) (R:Rep c m σ s.heap) (F:Frm c m σ s.heap V env ρ)
  (FIRST:wpAny (model c.prog c.w) A (eval iter env) (fun x s₁=>wpAny (model c.prog c.w) A (pyIter x) (fun it s₂=>∃a m',it=.ref a∧Aft c W0 m σ s m' σ₁ s₂∧FST a m' s₂) (fun Z Z=>False) s₁) (fun Z Z=>False) s)
  (RUN:∀{a:Addr} {m₁:Mp} {s₁:Shared} {env':Env} {m₂:Mp} {acc:Addr} {s₂:Shared},FST a m₁ s₁→Hd c (QI scope sc) V' xs m σ s m₁ σ₁ s₁ (YN own ρ) env' m₂ acc s₂→
   (∀{Q:Value→Shared→Prop} {E:Value→Shared→Prop},Q (.ref a) s₂→wpAny (model c.prog c.w) A (pyIter (.ref a)) Q E s₂)∧
   ∀{P:Result→Shared→Prop},(∀s',V2 c (WO env' xs) V' env' m σ s σ₁.length acc (YN own ρ) σ₂ s'→P (.ok .next) s')→codeAny (model c.prog c.w) A (.compLoop (.ListComp elt (⟨target,iter,ifs,0⟩::rest) scope pos) 0 (.ref a) (.ref acc) env') P s₂)
  (fin:∀{acc a:Addr} {s':Shared},AG c m σ s σ₁.length acc a σ₂ s'→compPost (model c.prog c.w) A (fun Z Z=>False) use Q (.ref acc) a (.ok .next) s'):
  wpAny (model c.prog c.w) A (comprehension (.ListComp elt (⟨target,iter,ifs,0⟩::rest) scope pos) scope env p' (newList []) false (eval iter env) use) Q (fun Z Z=>False) s:=by
 obtain⟨cl,hcl1,hcl2,hcl3⟩:=GC (scope:=scope) (env:=env) fun x hx=>by
  refine q0 ?_;intro Q;obtain⟨kx,i,hi⟩:=K.free x hx
  rcases F.var i x hi with ⟨k',_⟩|⟨_,a,ov,el,_⟩
  ·have:env.kindOf x=some .cell:=by show env.scope.names.lookup x=_;rw[O.scp];exact kx
   rw[this]at k';cases k'
  ·exact⟨a,el⟩
 refine wpAny_comprehension_free rfl (fun x=>hs env x O.scp) hcl1 K.kind K.names (Qy FIRST fun x s₁ z=>Qy z fun itv s₂ z=>?_)
 obtain⟨a,m₁,rfl,x1,I0⟩:=z
 refine Qy (KR x1.rep) fun v sp z=>?_
 obtain⟨acc,m₂,rfl,x2,hφ,kl⟩:=z
 have x12:=x1.trans x2
 refine DQ ?_
 obtain⟨O',F',kp,hW,hWF⟩:=FT (s:=sp) K hxs O x12.rep (x12.frm R F) hcl2 hcl3
 have hW':∀b,WO (UR scope env sp.heap.objs.size (cellsFrom (sp.heap.objs.size+1) scope.names cl)) xs b→s.heap.get? b=none:=fun b w=>by
  cases z:s.heap.get? b with
  |none=>rfl
  |some o=>obtain⟨o',e'⟩:=x12.stp.stay b o z;rw[hW b w]at e';cases e'
 have x3:Aft c W0 m₂ (σ₁++[.lst []]) sp m₂ (σ₁++[.lst []]) {sp with heap:=pushCells (sp.heap.push {cls:=.type "dict",data:=.dict #[]}) scope.names}:=⟨_,sp.toks,rfl,.grow x12.rep kp⟩
 have H:Hd c (QI scope sc) V' xs m σ s m₁ σ₁ s₂ (YN own ρ) (UR scope env sp.heap.objs.size (cellsFrom (sp.heap.objs.size+1) scope.names cl)) m₂ acc {sp with heap:=pushCells (sp.heap.push {cls:=.type "dict",data:=.dict #[]}) scope.names}:=
  ⟨O',(x12.trans x3).upd,(x12.trans x3).stp,F',fun b o e=>kp _ _ (kl _ _ e),fun b o e hn w=>(hWF b w).elim (fun q=>by rw[kl _ _ e]at q;cases q) (WF.none F hn),fun b o e off l hl q=>(by
   rcases Nat.lt_or_ge l σ₁.length with z|z
   ·exact off l z ((x2.stp.ext l z).2.symm.trans q)
   ·have:=x2.stp.fresh l z hl;rw[q,e]at this;cases this),x2.stp.ext,hφ⟩
 obtain⟨it,run⟩:=RUN I0 H
 have main:=run (P:=compPost (model c.prog c.w) A (fun Z Z=>False) use Q (.ref acc) sp.heap.objs.size) fun s' z=>by
  obtain⟨m₃,u,S,F,hk,hφ⟩:=z
  obtain⟨mm,hn⟩:=F.ns
  exact fin ⟨m₃,mm,hn,S.inner fun b w=>.inr (hW' b w),hk,hφ,u,hW' _ (.inl rfl),F.offL,O'.newL⟩
 exact codeAny_compStart_list main (it main)
def ZI (c:Cx)(C:CT)(d:Nat)(sc scope:Scope)(V:Vw)(e iter:PySem.Expr)(f:EX):Prop:=
 ∀⦃A:Around⦄ ⦃s:Shared⦄ ⦃env:Env⦄ ⦃m:Mp⦄ ⦃σ σ':H⦄ ⦃ρ:Lc⦄ ⦃r:PV⦄ ⦃p':Pos⦄ ⦃use:Option (Value→Sem Unit)⦄ ⦃Q:Value→Shared→Prop⦄,Ym c sc V env→AOk d A→Rep c m σ s.heap→Frm c m σ s.heap V env ρ→f C c.ns ρ σ=some (r,σ')→
  (∀{k:Nat} {acc a:Addr} {s':Shared},r=.loc k→AG c m σ s k acc a σ' s'→compPost (model c.prog c.w) A (fun Z Z=>False) use Q (.ref acc) a (.ok .next) s')→
  wpAny (model c.prog c.w) A (comprehension e scope env p' (newList []) false (eval iter env) use) Q (fun Z Z=>False) s
theorem OD {elt target iter:PySem.Expr}{ifs:List PySem.Expr}{pos:Pos}{t:Tg}{it:IX}{fifs:List TX}{felt:EX}
  (K:WY sc scope V V' (QX t)) (hxs:∀x∈YE target,(x,NameKind.free)∉scope.names) (Si:WE c C d sc V iter it) (T:Y7 c (QI scope sc) V' target t) (ht:Jk target) (L:ZS c C d (QI scope sc) V' ifs fifs) (Se:Snd c C d (QI scope sc) V' elt felt)
  (hs:∀env x,env.scope=sc→foldedSetIterable iter env x=pure x):ZI c C d sc scope V (.ListComp elt [⟨target,iter,ifs,0⟩] scope pos) iter (QJ it t fifs felt):=fun{A s env m σ σ' ρ r p' use Q} O AK R F h fin=>by
 refine q0 ?_;intro Q;obtain⟨src,σ₁,e1,h⟩:=Qh h
 obtain⟨u,σ₃,e2,h⟩:=Qh h
 cases h
 refine Nv K hxs hs O R F (Si O AK R F e1) (fun I H=>?_) (fin rfl)
 obtain⟨hn,off,I0⟩:=I
 obtain⟨oa,ha,_⟩:=I0.obj
 have I3:=I0.keep (H.kp _) (.of_keep H.kp) H.ext (N':=(σ₁++[AO.lst []]).length) (by simp)
 exact⟨fun q=>I3.again q,fun hR=>Nl rfl (Ox ..) T ht (fun x h=>h) L H.O AK R (fun i hi=>by rw[YV,if_pos hi]) (H.nW _ oa ha hn) (fun R5 F5 Z hk5 hφ5 h5=>DS Se H.O AK R5 F5 hk5 hφ5 h5) hR ⟨_,_,0,H.u,⟨H.S.weak fun Z w=>w.elim,hn,H.off _ oa ha off⟩,I3,H.F,by simp,H.hφ,e2⟩⟩
theorem BQ {elt target iter:PySem.Expr}{ifs:List PySem.Expr}{rest:List Comprehension}{pos:Pos}{f:EX}(CO:ZI c C d sc scope V (.ListComp elt (⟨target,iter,ifs,0⟩::rest) scope pos) iter f):Snd c C d sc V (.ListComp elt (⟨target,iter,ifs,0⟩::rest) scope pos) f:=fun{A s env m σ σ' ρ p} O AK R F h=>by
 simp only[eval_ListComp]
 show wpAny _ _ (comprehension _ scope env (firstIterPos _ pos) (newList []) false (eval iter env)) _ _ _
 refine CO (use:=none) (Q:=QF c m σ s p σ') O AK R F h fun{k acc a s'} e X=>?_
 clear h;obtain⟨m₂,mm,hn,S,hk,hφ,u,hnew,off,nl⟩:=X
 refine⟨mm,hn,fun h'' hsb=>?_⟩
 obtain⟨o,ho,fd⟩:=BH hn
 clear hn;obtain⟨h',t',rfl⟩:=u
 exact⟨m₂,h'',t',rfl,(S.fin (W:=W0) hnew (fun b w=>w.elim) ho fd.alien off nl hsb.extBut).1,by subst e;show Val c m₂ σ'.length h'' (.loc k) (.ref acc);exact⟨hk,by rw[hφ]⟩⟩
theorem LX {elt target iter:PySem.Expr}{ifs:List PySem.Expr}{pos:Pos}{t:Tg}{it:IX}{fifs:List TX}{felt:EX}
 (K:WY sc scope V V' (QX t)) (hxs:∀x∈YE target,(x,NameKind.free)∉scope.names) (Si:WE c C d sc V iter it) (T:Y7 c (QI scope sc) V' target t) (ht:Jk target) (L:ZS c C d (QI scope sc) V' ifs fifs) (Se:Snd c C d (QI scope sc) V' elt felt)
 (hs:∀env x,env.scope=sc→foldedSetIterable iter env x=pure x):Snd c C d sc V (.ListComp elt [⟨target,iter,ifs,0⟩] scope pos) (QJ it t fifs felt):=BQ (OD K hxs Si T ht L Se hs)
theorem Fv {elt target iter:PySem.Expr}{ifs:List PySem.Expr}{rest:List Comprehension}{x:Str}{i:Nat}{pos p p2:Pos}{f:EX}(hm:(i,x)∈V)(hf:sc.names.lookup x≠some .free)
  (CO:ZI c C d sc scope V (.ListComp elt (⟨target,iter,ifs,0⟩::rest) scope pos) iter f)
  (hsw:∀env,env.scope=sc→swapsWith (.ListComp elt (⟨target,iter,ifs,0⟩::rest) scope pos) (some (.Name x p)) p2.line env=pure true):Ja c C d sc V (.Assign [.Name x p] (.ListComp elt (⟨target,iter,ifs,0⟩::rest) scope pos) p2) (sSet i f):=fun{A s env m σ σ' ρ ρ' fl} O AK R F h=>by
 refine q3 σ' ρ' fl ?_;intro Q;obtain⟨q,σ₁,e1,h⟩:=Qh h
 cases h
 refine HK fun Q hQ=>?_
 rw[exec_Assign_Name_used x p _ p2 (hsw env O.scp)]
 refine wpAny_bind (wpAny_standAt (wpAny_bind ?_))
 show wpAny _ _ (comprehension _ scope env _ (newList []) false (eval iter env) (some (assign (.Name x p) env))>>= fun Z=>pure ()) _ _ _
 refine wpAny_bind (Qy (CO (use:=some (assign (.Name x p) env)) (Q:=fun Z s'=>Q .next s') O AK R F e1 fun{k acc a s'} e X=>?_) fun Z Z z=>wpAny_pure (wpAny_pure z))
 obtain⟨m₂,mm,hn,S,hk,hφ,u,hnew,off,nl⟩:=X
 have x1:=u.aft S
 have nW:¬WF env a:=WF.none F hnew
 show wpAny _ _ (assign (.Name x p) env (.ref acc)) _ _ _
 refine PyProof.Rows.assign_Name (Qy (BS O x1.rep (x1.frm R F) hm (Bg O hf) (p:=.loc k) (v:=.ref acc) (by exact⟨hk,by rw[hφ]⟩)) fun Z s₃ z=>?_)
 obtain⟨m₃,x3,F3⟩:=Yg.aft z
 clear z;have S3:=x3.stp
 obtain⟨o,ho,fd⟩:=BH hn
 have hn3:s₃.heap.Ns a mm:=by
  obtain⟨o',es,ep,e,r⟩:=hn
  exact⟨o',es,ep,S3.keep _ _ e off nW,r⟩
 refine⟨mm,hn3,fun h'' hsb=>hQ _ _ ?_⟩
 clear hn3;have fin:=((S.weak fun Z w=>w.elim).trans S3).fin (W:=WF env) hnew (fun b w=>.inl w) (S3.keep _ _ ho off nW) fd.alien (fun l hl q=>off l hl ((S3.ext l hl).2.symm.trans q)) nl hsb.extBut
 clear S3;obtain⟨h₃,t₃,rfl⟩:=u.trans x3.upd
 rw[e]
 exact⟨m₃,h'',t₃,rfl,fin.1,rfl,F3.ext (fun b o nb e=>hsb.extBut b o nb e) fin.2 (fun q=>nW (.inl q.symm)) (fun y b e q=>nW (.inr ⟨y,q▸e⟩))⟩
end
end Mine.Tactic
namespace Mine.Tactic
structure G6 (c:Cx) (x:Str):Prop where
 tab:∃O f,c.mg x=some (.ref O)∧c.g.MapOf (strKind c.prog c.w) O f∧∀n l,WR n=some l→∃a vs,f (JY n)=some (.ref a)∧c.g.IsList a vs.toArray∧∀m N,QD c m N c.g l vs
theorem Dt {c:Cx}{K:Type} [DecidableEq K]{knd:KeyKind c.prog c.w K}{h h':Heap}{a:Addr}{f:K→Option Value}(x:h.MapOf knd a f)(k:∀b o,h.get? b=some o→h'.get? b=some o):h'.MapOf knd a f:=
 by obtain⟨o,es,ep,ho,r⟩:=x;exact⟨o,es,ep,k _ _ ho,r⟩
section
variable {c:Cx} {C:CT} {d:Nat} {sc:Scope} {V:Vw} {m m₁ m₂:Mp} {σ σ₁ σ₂:H} {s s₁ s₂:Shared} {env:Env} {ρ ρ':Lc} {A:Around}
set_option tactic.hygienic true in
theorem KV {value:PySem.Expr}{k:Nat}{p pos:Pos}{a:EX}(G:Kd c)(S:Snd c C d sc V value a):Snd c C d sc V (.Subscript value (.Constant (.int 0) k p) pos) (Kl a):=fun{A s env m σ σ' ρ r} O AK R F h=>by
 refine q2 σ' r ?_;intro Q;obtain⟨q,σ₁,e1,h⟩:=Qh h
 cases q with
 |scr=>
  cases hn:c.ns with
  |nil=>exact fo (α:=PV×H) (by rw[hn]at h;exact h)
  |cons n _=>
   rw[hn]at h
   cases h
   refine Subscript_ (S.one O AK R F e1 fun m₁ v s₁ x1 y1=>wpAny_Constant_int ?_)
   subst y1
   obtain⟨vs,hl,hi,_⟩:=IU G x1.rep
   rw[hn]at hi
   cases hi with
   |cons n t hi'=>
    refine tail_any (T:="list") hl.typeIs slot_list_getitem.lookup ?_ rfl
    exact wpAny_getItem_list hl (Int.le_refl 0) (by omega) (x:=.int n t) rfl (.of x1 (.tok x1.rep (by exact⟨t,rfl⟩)))
 |_=>exact fo h
theorem PN {p q r:PV}(h:ZF p q σ=some (r,σ₁)):∃n l b,q=.sym n∧WR n=some l∧anyV σ p l=some b∧r=.bool (!b)∧σ₁=σ:=by
 refine q3 σ q r ?_;intro Q;obtain⟨n,rfl,h⟩:=Tl h
 obtain⟨l,hl,h⟩:=Option.bind_eq_some_iff.mp h
 obtain⟨k,e,rfl,rfl⟩:=JT h
 clear h;obtain⟨b,e',rfl⟩:=Option.map_eq_some_iff.mp e
 exact⟨_,_,b,rfl,hl,e',rfl,rfl⟩
theorem FF (G:Kd c){x:Str}{p0 p1:Pos}{slice:PySem.Expr}{b:EX}(X:G6 c x)(hk:sc.names.lookup x=some .globalImplicit)(hd:(x==("__debug__":Str))=false)(hs:∀o i,subscripted slice false o i=operate [o,i] (getItem o i))(Sb:Snd c C d sc V slice b)
  (O:Ym c sc V env) (AK:AOk d A) (R:Rep c m σ s.heap) (F:Frm c m σ s.heap V env ρ) {n:Nat} {l:List PV} (e1:b C c.ns ρ σ=some (.sym n,σ₁)) (hl:WR n=some l) {Q:Value→Shared→Prop}
  (k:∀m₁ a vs s₁,Aft c W0 m σ s m₁ σ₁ s₁→s₁.heap.IsList a vs.toArray→QD c m₁ σ₁.length s₁.heap l vs→Q (.ref a) s₁):wpAny (model c.prog c.w) A (eval (.Subscript (.Name x p0) slice p1) env) Q (fun Z Z=>False) s:=by
 refine q0 ?_;intro Q;obtain⟨D,f,hm,hf,hT⟩:=X.tab
 refine Subscript_ (BC G.toGd O R ⟨hk,hd,hm⟩ (Sb.one O AK R F e1 fun m₁ v s₁ x1 y1=>?_))
 obtain⟨hn,t,rfl⟩:=y1
 obtain⟨a,vs,h1,h2,h3⟩:=hT n l hl
 have M:=Dt hf x1.rep.base
 refine tail_any (T:="dict") M.typeIs slot_dict_getitem.lookup (wpAny_getItem_of (strKind_is _ _ _ _) M h1 ?_) (hs _ _)
 have x2:Aft c W0 m₁ σ₁ s₁ m₁ σ₁ {s₁ with toks:=s₁.toks+1}:=⟨s₁.heap,s₁.toks+1,rfl,.refl x1.rep⟩
 obtain⟨o,e,r⟩:=h2
 exact k m₁ a vs _ (x1.trans x2) ⟨o,x1.rep.base _ _ e,r⟩ ((h3 m₁ σ₁.length).grow x1.rep.base)
theorem Dz (G:Kd c){x:Str}{l slice:PySem.Expr}{p0 p1 pos:Pos}{a b:EX}(X:G6 c x)(hk:sc.names.lookup x=some .globalImplicit)(hd:(x==("__debug__":Str))=false)(hs:∀o i,subscripted slice false o i=operate [o,i] (getItem o i))(Sa:Snd c C d sc V l a)(Sb:Snd c C d sc V slice b)
  (hm:behindInMarks .NotIn (.Subscript (.Name x p0) slice p1)=false):Jy c C d sc V (.Compare l [.NotIn] [.Subscript (.Name x p0) slice p1] pos) (tE (Y5 a b)):=fun{A s env m σ σ' ρ r} O AK R F h=>by
 refine q1 r ?_;intro Q;have h:=Ir h
 obtain⟨q,σ₁,u,σ₂,e1,e2,e3⟩:=Un h
 clear h;clear h;obtain⟨n,ll,bb,rfl,hl,hany,hr,rfl⟩:=PN e3
 clear e3;cases hr
 refine wpAny_isTrue_Compare1 ?_ hm
 refine Sa.one O AK R F e1 fun m₁ v s₁ x1 y1=>FF G X hk hd hs Sb O AK x1.rep (x1.frm R F) e2 hl fun m₂ D vs s₂ x2 hD hv=>?_
 obtain⟨f,f1,f2⟩:=G4 G x2.rep AK (x2.val x1.rep y1) hv hany
 exact notIn_listAt f hD f1 (by rw[f2];exact wpAny_truthy_bool ⟨rfl,.at (x1.trans x2) trivial⟩)
theorem Oq {M:Model}{A:Around}{E:Value→Shared→Prop}{s:Shared}{vs ws:List Value}{Q:Unit→Shared→Prop}(h:Q () s):wpAny M A (release vs ws) Q E s:=fun Γ p hΓ=>by
 simp only[Sem.wp_release];exact h
theorem Bb {o v:PV}{k:Nat}{h':H}(e:Ji o k v σ=some h'):∃l fs cl,o=.loc l∧σ[l]?=some (.ins cl fs):=
 ifP_some (G:=fun o=>∃l fs cl,o=.loc l∧σ[l]?=some (.ins cl fs)) e fun l e=>by obtain⟨cl,fs,e,_⟩:=Mc e;exact⟨l,fs,cl,rfl,e⟩
theorem DI {i l:Nat}(h:Ya ρ i=.loc l):Qa i C c.ns ρ σ=some (.loc l,σ):=by unfold Qa;rw[h];rfl
theorem Kw {xa xb:Str}{ia ib k k2 kk:Nat}{e:PySem.Expr}{a:EX}{n1 n2:Str}{pa pb qa qb tp pos:Pos}(G:Kd c)(ha:(ia,xa)∈V)(hb:(ib,xb)∈V)(da:(xa==("__debug__":Str))=false∧(xa==("__classdict__":Str))=false)(db:(xb==("__debug__":Str))=false∧(xb==("__classdict__":Str))=false)(h1:n1=Q6 k)(h2:n2=Q6 k2)(S:Snd c C d sc V e a)
  (hs:∀env,env.scope=sc→swapsWithSole [.Tuple [.Attribute (.Name xa pa) n1 qa,.Attribute (.Name xb pb) n2 qb] kk tp] e pos.line env=pure false∧swappedStores [.Tuple [.Attribute (.Name xa pa) n1 qa,.Attribute (.Name xb pb) n2 qb] kk tp] e env=pure none)
  :Ja c C d sc V (.Assign [.Tuple [.Attribute (.Name xa pa) n1 qa,.Attribute (.Name xb pb) n2 qb] kk tp] e pos) (Hr ia k ib k2 a):=fun{A s env m σ σ' ρ ρ' fl} O AK R F h=>by
 refine q4 n1 n2 ρ' fl ?_;intro Q;subst h1 h2
 obtain⟨q,σ₁,e1,h⟩:=Qh h
 obtain⟨l,rfl,h⟩:=OZ h
 obtain⟨v,w,rfl,h⟩:=Cb h
 obtain⟨hA,ea,h⟩:=Option.bind_eq_some_iff.mp h
 obtain⟨hB,eb,h⟩:=Option.map_eq_some_iff.mp h
 cases h
 refine PyProof.Rows.Assign_Tuple (S.one O AK R F e1 fun m₁ u s₁ x1 y1=>?_) (hs env O.scp).1 (hs env O.scp).2
 obtain⟨b,vs,rfl,ht,v1,r1,rfl,w1,v2,r2,rfl,w2,hv⟩:=y1
 cases hv
 refine wpAny_assign_Tuple AK.handled ht rfl rfl fun h' he=>?_
 have kp:∀b o,s₁.heap.get? b=some o→h'.get? b=some o:=fun b o e=>he b o (Nat.ne_of_lt (Heap.lt_size e)) e
 have x2:Aft c W0 m₁ σ₁ s₁ m₁ σ₁ {s₁ with heap:=h'}:=⟨h',s₁.toks,rfl,.grow x1.rep kp⟩
 have x12:=x1.trans x2
 have F2:=x12.frm R F
 obtain⟨la,fa,ca,pa',ga⟩:=Bb ea
 obtain⟨lb,fb,cb,pb',gb⟩:=Bb eb
 show wpAny _ _ (do holding [v2] (assign (.Attribute (.Name xa pa) (Q6 k) qa) env v1);(do holding [] (assign (.Attribute (.Name xb pb) (Q6 k2) qb) env v2);pure ())) _ _ _
 refine wpAny_bind (wpAny_holding ?_)
 rw[assign_Attribute]
 refine wpAny_bind (wpAny_holding (Snd.one (Ua (C:=C) (d:=d) ha da.1 da.2) O AK x12.rep F2 (DI pa') fun m₃ o s₃ x3 y3=>wpAny_bind (wpAny_standAt (wpAny_bind (wpAny_holding ?_)))))
 have w1':=x3.val x12.rep (x2.val x1.rep w1)
 have w2':=x3.val x12.rep (x2.val x1.rep w2)
 rewrite [pa']at ea
 refine Qy (B0 (d:=d) G k AK x3.rep y3 w1' ea) fun Z s₄ y=>Oq (wpAny_bind (wpAny_holding ?_))
 obtain⟨m₄,x4⟩:=xpT y
 have x14:=(x12.trans x3).trans x4
 rw[assign_Attribute]
 refine wpAny_bind (wpAny_holding (Snd.one (Ua (C:=C) (d:=d) hb db.1 db.2) O AK x14.rep (x14.frm R F) (DI pb') fun m₅ o5 s₅ x5 y5=>wpAny_bind (wpAny_standAt (wpAny_bind (wpAny_holding ?_)))))
 have w2'':=x5.val x14.rep (x4.val x3.rep w2')
 rw[pb']at eb
 refine Qy (B0 (d:=d) G k2 AK x5.rep y5 w2'' eb) fun Z s₆ y=>Oq (wpAny_pure ?_)
 obtain⟨m₆,x6⟩:=xpT y
 have x16:=(x14.trans x5).trans x6
 exact .nxt (toW x16) (x16.frm R F)
end
end Mine.Tactic
namespace Mine.Tactic
section
variable {c:Cx} {C:CT} {d:Nat} {sc:Scope} {V:Vw} {m m₁ m₂:Mp} {σ σ₁ σ₂:H} {s s₁ s₂:Shared} {env:Env} {ρ ρ':Lc} {A:Around}
theorem Lf {k v:PySem.Expr}{pos:Pos}{a b:EX}(Sk:Snd c C d sc V k a)(Sv:Snd c C d sc V v b):Snd c C d sc V (.Dict [some k] [v] pos) (I5 a b):=fun{A s env m σ σ' ρ r} O AK R F h=>by
 refine q2 σ' r ?_;intro Q;obtain⟨p,σ₁,e1,h⟩:=Qh h
 obtain⟨q,σ₂,e2,h⟩:=Qh h
 obtain⟨n,rfl,h⟩:=Tl h
 cases h
 refine wpAny_Dict_walk (knd:=strKind c.prog c.w) rfl rfl (by simp) (by simp) ?_
 have x0:Aft c W0 m σ s m σ {s with heap:=s.heap.push {cls:=.type "dict",data:=.dict #[]}}:=.push R _
 refine pairTrees_cons_walk (Sk.one O AK x0.rep (x0.frm R F) e1 fun m₁ kv s₁ x1 y1=>Sv.one O AK x1.rep (x1.frm x0.rep (x0.frm R F)) e2 fun m₂ vv s₂ x2 y2=>evalPairs_nil ?_)
 have x12:=x1.trans x2
 have y1':=x2.val x1.rep y1
 clear y1' x2;skip
 obtain⟨hn,t,rfl⟩:=y1
 have hpd:(s.heap.push {cls:=.type "dict",data:=.dict #[]}).get? s.heap.objs.size=some {cls:=.type "dict",data:=.dict #[]}:=Heap.get?_push_size _ rfl
 have n0:∀l,l<σ.length→m.μ l≠s.heap.objs.size:=Bj R
 have h2d:=x12.stp.keep _ _ hpd n0 fun w=>w
 refine⟨[(JY n,vv)],⟨strKind_is _ _ _ _,rfl,trivial⟩,MB h2d,fun h' hd hsb=>?_⟩
 clear h2d;obtain⟨h₂,t₂,rfl,S12⟩:=id x12
 refine⟨_,h',_,rfl,Stp.adopt R (YW _ _) (JL _) hpd rfl S12 hsb (o':=.dct [(.sym n,q)]) fun ht=>⟨by rw[Mp.put_φ,Mp.put_μ],.kStr [(JY n,vv)] (by rw[Mp.put_μ];exact hd) ⟨JY n,vv,[],rfl,⟨n,hn,rfl,rfl⟩,y2.mono ht (Mp.put_ext _ _ _ _) (Nat.le_succ _),rfl⟩⟩,?_⟩
 show Val c _ (σ₂++[AO.dct [(.sym n,q)]]).length h' (.loc σ₂.length) _
 rw[List.length_append];exact⟨Nat.lt_succ_self _,by rw[Mp.put_φ]⟩
end
end Mine.Tactic
namespace Mine.Tactic
section
variable {c:Cx} {C:CT} {d:Nat} {sc scope:Scope} {V V':Vw} {m m₁ m₂:Mp} {σ σ₁ σ₂:H} {s s₁ s₂:Shared} {W:Addr→Prop} {env:Env} {ρ ρ':Lc} {A:Around} {own:List Nat}
theorem Gf (elt t1 i1 t2 i2:PySem.Expr)(scope:Scope)(pos:Pos)(it acc:Value)(env:Env):
 compTurn (.ListComp elt [⟨t1,i1,[],0⟩,⟨t2,i2,[],0⟩] scope pos) 0 it acc env=(do
  standAt i1.pos
  match ←pyNext it with
  |none=>pure (.done .next)
  |some v=>
   letOwnedTupleGo t1 it v
   assign t1 env v
   let mut ok:=true
   for c in ([]:List PySem.Expr) do
    if ok then ok ←isTrue c env (eval c env)
   if ok then
    (do
     let x ←eval i2 env
     standAt i2.pos
     let x ←foldedSetIterable i2 env x
     let _ ←runOwn (.compStart (.ListComp elt [⟨t1,i1,[],0⟩,⟨t2,i2,[],0⟩] scope pos) 1 (←holding [x] (pyIter x)) acc env) env
     again (.compLoop (.ListComp elt [⟨t1,i1,[],0⟩,⟨t2,i2,[],0⟩] scope pos) 0 it acc env))
   else again (.compLoop (.ListComp elt [⟨t1,i1,[],0⟩,⟨t2,i2,[],0⟩] scope pos) 0 it acc env)):=by rfl
theorem D2 (elt t1 i1 t2 i2:PySem.Expr)(scope:Scope)(pos:Pos)(it acc:Value)(env:Env):
 compTurn (.ListComp elt [⟨t1,i1,[],0⟩,⟨t2,i2,[],0⟩] scope pos) 1 it acc env=(do
  standAt i2.pos
  match ←pyNext it with
  |none=>pure (.done .next)
  |some v=>
   letOwnedTupleGo t2 it v
   assign t2 env v
   let mut ok:=true
   for c in ([]:List PySem.Expr) do
    if ok then ok ←isTrue c env (eval c env)
   if ok then((do let _ ←call (.builtin "list.append") [acc,←eval elt env]:Sem Unit)>>= fun Z=>again (.compLoop (.ListComp elt [⟨t1,i1,[],0⟩,⟨t2,i2,[],0⟩] scope pos) 1 it acc env))
   else again (.compLoop (.ListComp elt [⟨t1,i1,[],0⟩,⟨t2,i2,[],0⟩] scope pos) 1 it acc env)):=by rfl
theorem GD {elt t1 i1 t2 i2:PySem.Expr}{scope:Scope}{pos:Pos}{it acc:Value}{env:Env}{R:Result→Shared→Prop}
  (h0:codeAny (model c.prog c.w) A (.compLoop (.ListComp elt [⟨t1,i1,[],0⟩,⟨t2,i2,[],0⟩] scope pos) 1 it acc env) R s)
  (h:wpAny (model c.prog c.w) A (pyIter it) (fun it' s'=>codeAny (model c.prog c.w) A (.compLoop (.ListComp elt [⟨t1,i1,[],0⟩,⟨t2,i2,[],0⟩] scope pos) 1 it' acc env) R s') (fun Z Z=>False) s):
  codeAny (model c.prog c.w) A (.compStart (.ListComp elt [⟨t1,i1,[],0⟩,⟨t2,i2,[],0⟩] scope pos) 1 it acc env) R s:=by
 refine codeAny_of_tree ?_
 show wpAny _ _ ((compStart (.ListComp elt [⟨t1,i1,[],0⟩,⟨t2,i2,[],0⟩] scope pos) 1 it acc env).onRaise (fun x=>do noteFrame x env;standAt theWindowsPlace)) _ _ s
 refine wpAny_notedAt ?_
 unfold compStart
 show wpAny _ _ (ask>>= _) _ _ s
 refine wpAny_bind (wpAny_askSetting (wpAny_ite ?_))
 split
 ·first
   |exact wpAny_bind (wpAny_pure (wpAny_pure (And.intro rfl h0)))
   |exact wpAny_pure (And.intro rfl h0)
 ·first
   |exact wpAny_bind (wpAny_rule (wpAny_bind (wpAny_standAt (wpAny_bind (Qy h fun it' s' h'=>wpAny_pure (And.intro rfl h'))))))
   |(refine wpAny_bind (wpAny_rule ?_);show wpAny _ _ (standAt i2.pos>>= _) _ _ s;exact wpAny_bind (wpAny_standAt (wpAny_bind (Qy h fun it' s' h'=>wpAny_pure (And.intro rfl h')))))
end
end Mine.Tactic
namespace Mine.Tactic
section
variable {c:Cx} {C:CT} {d:Nat} {sc scope:Scope} {V V':Vw} {m m₁ m₂:Mp} {σ σ₁ σ₂:H} {s s₁ s₂:Shared} {W:Addr→Prop} {env:Env} {ρ ρ':Lc} {A:Around} {own:List Nat}
theorem Hs {elt t1 i1 t2 i2:PySem.Expr}{pos:Pos}{tb:Tg}{it2:IX}{felt:EX}{env':Env}{xs:List Str}{acc:Addr}{k:Nat}{sc':Scope}{L:Code}
  (Si:WE c C d sc' V' i2 it2) (T:Y7 c sc' V' t2 tb) (ht:Jk t2) (hxs:∀x∈YE t2,x∈xs) (Se:Snd c C d sc' V' elt felt)
  (hs:∀x,foldedSetIterable i2 env' x=pure x)
  (O:Ym c sc' V' env') (AK:AOk d A) (R:Rep c m σ s.heap) (F:Frm c m σ s.heap V' env' ρ) (hU:∀i∈QX tb,Ya ρ i=.unb) (hk:k<σ.length) (hφ:m.φ k=acc)
  (h:(Qp (it2 C c.ns ρ σ) fun src2 h'=>QZ tb (Yk []) (MA k felt) BG src2 0 C c.ns ρ h')=some ((),σ₂)):
  wpAny (model c.prog c.w) A (do
   let x ←eval i2 env'
   standAt i2.pos
   let x ←foldedSetIterable i2 env' x
   let _ ←runOwn (.compStart (.ListComp elt [⟨t1,i1,[],0⟩,⟨t2,i2,[],0⟩] scope pos) 1 (←holding [x] (pyIter x)) (.ref acc) env') env'
   again L) (fun fin s₇=>fin=.again L∧∃m₇,Aft c (WO env' xs) m σ s m₇ σ₂ s₇∧Frm c m₇ σ₂ s₇.heap V' env' ρ) (fun Z Z=>False) s:=by
 obtain⟨src,σ₁,e1,h⟩:=Qh h
 refine wpAny_bind (Qy (Si O AK R F e1) fun x s₁ z=>?_)
 refine wpAny_bind (wpAny_standAt ?_)
 rw[hs x]
 refine wpAny_bind (wpAny_pure (wpAny_bind (wpAny_holding (Qy z fun itv s₂ z=>?_))))
 obtain⟨a,m₁,rfl,x1,hn,off,I0⟩:=z
 have nWa:¬WF env' a:=WF.none F hn
 have F1:=x1.frm R F
 refine wpAny_bind (wpAny_runOwn (A:=A) ?_)
 have main:∀{P:Result→Shared→Prop},(∀s',V2 c (WO env' xs) V' env' m σ s k acc ρ σ₂ s'→P (.ok .next) s')→codeAny (model c.prog c.w) A (.compLoop (.ListComp elt [⟨t1,i1,[],0⟩,⟨t2,i2,[],0⟩] scope pos) 1 (.ref a) (.ref acc) env') P s₂:=fun hR=>
  Nl rfl (D2 elt t1 i1 t2 i2 scope pos (.ref a) (.ref acc) env') T ht hxs .nil O AK R hU nWa (fun R5 F5 Z hk5 hφ5 h5=>DS Se O AK R5 F5 hk5 hφ5 h5) hR ⟨m₁,σ₁,0,x1.upd,⟨x1.stp.weak fun Z w=>w.elim,hn,off⟩,I0,F1,Nat.lt_of_lt_of_le hk x1.stp.len,(x1.stp.ext k hk).1.trans hφ,h⟩
 refine GD (main fun s' z=>?_) (I0.again (main fun s' z=>?_))
 all_goals
  obtain⟨m₇,u,S7,F7,_,_⟩:=z
  exact wpAny_pure ⟨rfl,m₇,u.aft S7,F7⟩
theorem Hj {elt target iter t2 i2:PySem.Expr}{pos:Pos}{t tb:Tg}{it it2:IX}{felt:EX}
  (K:WY sc scope V V' (QX t++QX tb)) (hxs:∀x∈YE target++YE t2,(x,NameKind.free)∉scope.names) (hd:∀i∈QX tb,i∉QX t) (Si:WE c C d sc V iter it) (T:Y7 c (QI scope sc) V' target t) (ht:Jk target) (Si2:WE c C d (QI scope sc) V' i2 it2) (T2:Y7 c (QI scope sc) V' t2 tb) (ht2:Jk t2) (hs2:∀env x,env.scope=QI scope sc→foldedSetIterable i2 env x=pure x) (Se:Snd c C d (QI scope sc) V' elt felt)
  (hs:∀env x,env.scope=sc→foldedSetIterable iter env x=pure x):ZI c C d sc scope V (.ListComp elt [⟨target,iter,[],0⟩,⟨t2,i2,[],0⟩] scope pos) iter (He it t it2 tb felt):=fun{A s env m σ σ' ρ r p' use Q} O AK R F h fin=>by
 refine q0 ?_;intro Q;obtain⟨src,σ₁,e1,h⟩:=Qh h
 obtain⟨u,σ₃,e2,h⟩:=Qh h
 cases h
 refine Nv K hxs hs O R F (Si O AK R F e1) (fun{a m₁ s₁ env' m₂ acc s₂} I H=>?_) (fin rfl)
 obtain⟨hn,off,I0⟩:=I
 obtain⟨oa,ha,_⟩:=I0.obj
 have I3:=I0.keep (H.kp _) (.of_keep H.kp) H.ext (N':=(σ₁++[AO.lst []]).length) (by simp)
 exact⟨fun q=>I3.again q,fun hR=>Nl rfl (Gf elt target iter t2 i2 scope pos (.ref a) (.ref acc) env') T ht (fun x hx=>List.mem_append_left _ hx) .nil H.O AK R (fun i hi=>by rw[YV,if_pos (List.mem_append_left _ hi)]) (H.nW _ oa ha hn)
  (fun R5 F5 hj hk5 hφ5 h5=>Hs Si2 T2 ht2 (fun x hx=>List.mem_append_right _ hx) Se (fun x=>hs2 env' x H.O.scp) H.O AK R5 F5 (fun i hi=>by rw[hj i (hd i hi),YV,if_pos (List.mem_append_right _ hi)]) hk5 hφ5 h5) hR ⟨_,_,0,H.u,⟨H.S.weak fun Z w=>w.elim,hn,H.off _ oa ha off⟩,I3,H.F,by simp,H.hφ,e2⟩⟩
end
end Mine.Tactic
namespace Mine.Tactic
def Wb (h:Heap)(i:Addr):Prop:=(∃l,h.IsListIter i l 0∧h.IsList l #[])∨(∃t,h.IsTupleIter i t 0∧h.IsTuple t #[])
theorem Wb.obj {h:Heap}{i:Addr}(x:Wb h i):∃o,h.get? i=some o∧Oy o∧o.cls≠.type "zip":=by
 refine q0 ?_;intro Q;rcases x with ⟨l,⟨o,e,hc,hd⟩,_⟩|⟨l,⟨o,e,hc,hd⟩,_⟩
 ·refine⟨o,e,⟨fun C d q=>?_,fun Z Z q=>?_⟩,?_⟩
  ·subst q;cases hc
  ·rw[q]at hc;simp at hc
  ·rw[hc];simp
 ·refine⟨o,e,⟨fun C d q=>?_,fun Z Z q=>?_⟩,?_⟩
  ·subst q;cases hc
  ·rw[q]at hc;simp at hc
  ·rw[hc];simp
theorem Wb.keep {h h':Heap}{i:Addr}(x:Wb h i)(k:∀b o,h.get? b=some o→o.cls≠.type "zip"→h'.get? b=some o):Wb h' i:=by
 rcases x with ⟨l,⟨o,e,hc,hd⟩,⟨o2,e2,hc2,h2⟩⟩|⟨l,⟨o,e,hc,hd⟩,⟨o2,e2,hc2,h2⟩⟩
 ·exact .inl ⟨l,⟨o,k _ _ e (by rw[hc];simp),hc,hd⟩,⟨o2,k _ _ e2 (by rw[hc2];simp),hc2,h2⟩⟩
 ·exact .inr ⟨l,⟨o,k _ _ e (by rw[hc];simp),hc,hd⟩,⟨o2,k _ _ e2 (by rw[hc2];simp),hc2,h2⟩⟩
section
variable {prog:Program} {w:World} {A:Around} {E:Value→Shared→Prop} {s:Shared}
theorem BU {it t:Addr}{i:Nat}{items}{Q:Value→Shared→Prop}(hh:A.handled=none)
  (hit:s.heap.IsTupleIter it t i) (ht:s.heap.IsTuple t items) (hx:items[i]?=none)
  (hE:∀h' e,Heap.ExtBut it s.heap h'→(∃o,h'.get? e=some o∧o.cls=.type "StopIteration")→E (.ref e) {s with heap:=h'}):
  wpAny (model prog w) A (Builtin.SmallTypes.nextOf (.ref it)) Q E s:=by
 obtain⟨o,ho,hc,hd⟩:=id hit
 obtain⟨ol,hol,_,nl,hdl⟩:=ht
 unfold Builtin.SmallTypes.nextOf
 refine wpAny_bind (wpAny_callSpecial?_slot (name:=ofString "__next__") hit.typeIs F.slot_tuple_iterator_next
  (wpAny_call_entry F.slot_tuple_iterator_next hit.typeIs F.entry_tuple_iterator_next ?_ (F.args_tuple_iterator_next_1 _)))
 show wpAny _ _ (field (.ref it) 0>>= _) _ _ s
 refine wpAny_bind (wpAny_field ho hd (x:=.ref t) rfl ?_)
 show wpAny _ _ (if(Value.ref t==Value.none)=true then _ else _) _ _ s
 rw[if_neg (show¬((Value.ref t==Value.none)=true)from Bool.false_ne_true)]
 show wpAny _ _ (field (.ref it) 1>>= _) _ _ s
 refine wpAny_bind (wpAny_field ho hd (x:=.int i 0) rfl ?_)
 show wpAny _ _ (seqItems? (.ref t)>>= _) _ _ s
 refine wpAny_bind (wpAny_seqItems hol hdl ?_)
 simp only[Int.toNat_natCast,hx]
 refine wpAny_bind (wpAny_rule (wpAny_bind (wpAny_setField ho hd (by simp) ?_)))
 show wpAny _ _ (newExc (.type "StopIteration") []>>= _) _ _ _
 refine wpAny_bind ?_
 simp only[newExc,newTuple]
 refine wpAny_bind (wpAny_newObj_type ?_ (by size_fits))
 refine wpAny_bind (m:=firstArgMember _ _) (wpAny_of_eq (a:=Value.none) (by first|rfl|(simp only[firstArgMember];rfl)) ?_)
 refine wpAny_newObj_type ?_ (by refine q0 ?_;intro Q;size_fits)
 rw[raiseNew]
 refine wpAny_bind (wpAny_handled ?_)
 first|rw[show A.in1.handled=none from hh]|rw[hh]
 refine wpAny_bind (wpAny_pure (wpAny_throw ?_))
 exact hE _ _ (((Heap.SameBut.update ..).extBut.push _).push _) ⟨_,Heap.get?_push_size _ rfl,rfl⟩
theorem GX {i:Addr}{Q:Value→Shared→Prop}(hh:A.handled=none)(x:Wb s.heap i)
  (hE:∀h' e,Heap.ExtBut i s.heap h'→(∃o,h'.get? e=some o∧o.cls=.type "StopIteration")→E (.ref e) {s with heap:=h'}):
  wpAny (model prog w) A (Builtin.SmallTypes.nextOf (.ref i)) Q E s:=by
 rcases x with ⟨l,h1,h2⟩|⟨l,h1,h2⟩
 ·exact wpAny_nextOf_list_end hh h1 h2 (by simp) hE
 ·exact BU hh h1 h2 (by simp) hE
theorem OV {z TI TO i1 i2:Addr}{Q:Fin→Shared→Prop}(hh:A.handled=none)
  (hz:IsZip s.heap z TI TO .none) (hTI:IsPair s.heap TI (.ref i1) (.ref i2)) (h1:Wb s.heap i1)
  (hE:∀h₁ h₂ h' e,Heap.ExtBut z s.heap h₁→(∃o,h₁.get? z=some o∧o.cls=.type "zip")→Heap.ExtBut i1 h₁ h₂→Heap.ExtBut z h₂ h'→(∃o,h'.get? e=some o∧o.cls=.type "StopIteration")→E (.ref e) {s with heap:=h'}):
  wpAny (model prog w) A (Builtin.«zip.__next__» ⟨[.ref z],[]⟩) Q E s:=by
 show wpAny _ _ (field (.ref z) 2>>= _) _ _ _
 refine wpAny_bind (wpAny_field hz rfl (x:=.bool false) rfl ?_)
 show wpAny _ _ (field (.ref z) 3>>= _) _ _ _
 refine wpAny_bind (wpAny_field hz rfl (x:=.ref TI) rfl ?_)
 refine wpAny_bind (wpAny_seqItems hTI rfl ?_)
 show wpAny _ _ (Builtin.SmallTypes.ownedTupleIsFree (.ref z)>>= _) _ _ _
 refine wpAny_bind ?_
 unfold Builtin.SmallTypes.ownedTupleIsFree
 refine wpAny_bind (wpAny_field hz rfl (x:=.none) rfl (wpAny_pure ?_))
 simp only[if_true]
 refine wpAny_bind (wpAny_rule ?_)
 refine wpAny_bind (wpAny_field hz rfl (x:=.ref TO) rfl ?_)
 refine wpAny_bind (wpAny_setField_rec hz (by simp) fun h₁ hz₁ hs₁=>?_)
 replace hz₁:IsZip h₁ z TI TO .ellipsis:=hz₁
 refine wpAny_bind ?_
 simp only[List.zipIdx_cons,List.zipIdx_nil,List.forIn_cons,List.forIn_nil]
 refine wpAny_bind (wpAny_bind (wpAny_onRaise ?_))
 show wpAny _ _ (Builtin.SmallTypes.nextOf (.ref i1)>>= _) _ _ _
 obtain⟨oi,hoi,_,hci⟩:=h1.obj
 have i1z:i1≠z:=fun q=>by rw[q,hz]at hoi;cases hoi;simp at hci
 have h1':Wb h₁ i1:=h1.keep fun b o e hc=>hs₁.extBut b o (fun q=>by rw[q,hz]at e;cases e;simp at hc) e
 clear hz;refine wpAny_bind (GX hh h1' fun h₂ e hs₂ he=>?_)
 obtain⟨oe,hoe,hce⟩:=he
 have hz₂:IsZip h₂ z TI TO .ellipsis:=hs₂ _ _ i1z.symm hz₁
 clear i1z;have hez:e≠z:=fun x=>by clear hz₁ hs₁ hE;subst x;simp only[hz₂]at hoe;cases hoe;simp at hce
 refine wpAny_setField_rec hz₂ (by simp) fun h₃ Z hs₃=>hE h₁ h₂ h₃ e hs₁.extBut ⟨_,hz₁,rfl⟩ hs₂ hs₃.extBut ⟨oe,hs₃.extBut _ _ hez hoe,hce⟩
theorem UO {z TI TO i1 i2:Addr}{Q:Option Value→Shared→Prop}(hh:A.handled=none)
  (hz:IsZip s.heap z TI TO .none) (hTI:IsPair s.heap TI (.ref i1) (.ref i2)) (h1:Wb s.heap i1)
  (hQ:∀h₁ h₂ h',Heap.ExtBut z s.heap h₁→(∃o,h₁.get? z=some o∧o.cls=.type "zip")→Heap.ExtBut i1 h₁ h₂→Heap.ExtBut z h₂ h'→Q none {s with heap:=h'}):wpAny (model prog w) A (pyNext (.ref z)) Q E s:=by
 have hT:s.TypeIs (.ref z) "zip":=⟨_,hz,rfl⟩
 unfold pyNext
 refine wpAny_bind (wpAny_attempt (wpAny_callSpecial?_slot (name:=ofString "__next__") hT F.slot_zip_next
  (wpAny_call_entry F.slot_zip_next hT F.entry_zip_next (OV hh hz hTI h1 fun h₁ h₂ h' e a1 a2 a3 a4 he=>?_) (F.args_zip_next_1 _))))
 obtain⟨o,ho,hc⟩:=he
 refine wpAny_bind (wpAny_isInstance (T:="StopIteration") (b:=true) ⟨o,ho,hc⟩ isSubtype_stop ?_)
 exact wpAny_pure (hQ _ _ _ a1 a2 a3 a4)
end
def Ny (h:Heap)(l:Addr):Prop:=h.IsList l #[]∨h.IsTuple l #[]
def F8 (h:Heap)(o:Obj)(l:Addr):Prop:=(o={cls:=.type "list_iterator",data:=.fields #[.ref l,.int 0 0]}∧h.IsList l #[])∨(o={cls:=.type "tuple_iterator",data:=.fields #[.ref l,.int 0 0]}∧h.IsTuple l #[])
section
variable {prog:Program} {w:World} {A:Around} {E:Value→Shared→Prop} {s:Shared}
theorem Ux {l:Addr}{Q:Value→Shared→Prop}(h:Ny s.heap l)(q:∀o,F8 s.heap o l→Q (.ref s.heap.objs.size) {s with heap:=s.heap.push o}):wpAny (model prog w) A (pyIter (.ref l)) Q E s:=by
 rcases h with h|h
 ·exact wpAny_pyIter_list h (q _ (.inl ⟨rfl,h⟩))
 ·exact wpAny_pyIter_tuple h (q _ (.inr ⟨rfl,h⟩))
theorem Ny.push {h:Heap}{l:Addr}(x:Ny h l)(o:Obj):Ny (h.push o) l:=x.imp (·.push o) (·.push o)
end
theorem M1 (l1 l2:Addr):
  Meets (Builtin.«zip.__new__» ⟨[.type "zip",.ref l1,.ref l2],[]⟩) (fun Z R s=>Ny s.heap l1∧Ny s.heap l2∧∀o1 o2,F8 s.heap o1 l1→F8 (s.heap.push o1) o2 l2→
   R (.ok (.ret (.ref (s.heap.objs.size+4)))) {s with heap:=((((s.heap.push o1).push o2).push {cls:=.type "tuple",data:=.seq #[.ref s.heap.objs.size,.ref (s.heap.objs.size+1)]}).push {cls:=.type "tuple",data:=.seq #[.none,.none]}).push {cls:=.type "zip",data:=.fields #[.none,.bool false,.bool false,.ref (s.heap.objs.size+2),.ref (s.heap.objs.size+3)]}}):=
 .of_wp fun prog w A R s h=>by
  obtain⟨hl1,hl2,h⟩:=h
  show wpAny _ _ (Builtin.SmallTypes.newClass "zip" ⟨[.type "zip",.ref l1,.ref l2],[]⟩>>= _) _ _ _
  have e:Builtin.SmallTypes.newClass "zip" ⟨[.type "zip",.ref l1,.ref l2],[]⟩=pure (.type "zip",[.ref l1,.ref l2]):=by
   unfold Builtin.SmallTypes.newClass
   simp only[isType,sub_zip,pure_bind,Bool.not_true,Bool.false_eq_true,if_false]
  rw[e,pure_bind]
  show wpAny _ _ (Builtin.SmallTypes.iterAll [.ref l1,.ref l2]>>= _) _ _ _
  unfold Builtin.SmallTypes.iterAll
  simp only[List.forIn_cons,List.forIn_nil]
  refine wpAny_bind (wpAny_bind (wpAny_bind (wpAny_bind (wpAny_holding (Ux hl1 fun o1 n1=>wpAny_pure ?_)))))
  dsimp only
  refine wpAny_bind (wpAny_bind (wpAny_holding (Ux (hl2.push o1) fun o2 n2=>wpAny_pure ?_)))
  dsimp only
  refine wpAny_pure (wpAny_pure ?_)
  have two:2≤sizeLine:=Nat.le_trans (by decide) JQ
  refine wpAny_bind (wpAny_newTuple (wpAny_bind (wpAny_newTuple (wpAny_bind ?_) (by exact two))) (by simpa using two))
  unfold Builtin.SmallTypes.newRecord
  refine wpAny_newObj_type ?_ (by show 5≤sizeLine+2;exact Nat.le_trans (by decide:5≤20000) (Nat.le_trans JQ (Nat.le_add_right _ _)))
  refine wpAny_pure ?_
  simp only[Heap.size_push]at h ⊢
  exact⟨_,rfl,h o1 o2 n1 n2⟩
section
variable {prog:Program} {w:World} {A:Around} {E:Value→Shared→Prop} {s:Shared}
theorem Ik {l1 l2:Addr}{Q:Value→Shared→Prop}(h1:Ny s.heap l1)(h2:Ny s.heap l2)
  (h:∀h',IsZip h' (s.heap.objs.size+4) (s.heap.objs.size+2) (s.heap.objs.size+3) .none→IsPair h' (s.heap.objs.size+2) (.ref s.heap.objs.size) (.ref (s.heap.objs.size+1))→Wb h' s.heap.objs.size→
   (∀c o,s.heap.get? c=some o→h'.get? c=some o)→Q (.ref (s.heap.objs.size+4)) {s with heap:=h'}):
  wpAny (model prog w) A (call (.type "zip") [.ref l1,.ref l2]) Q E s:=by
 refine callType_new F.called_zip (by decide) (F.typeCall_zip_2 _ _) (F.newCall_zip_2 _ _) (fun obj=>F.args_object_init_3 obj _ _) F.entry_zip_new
   (M1 l1 l2) ⟨h1,h2,fun o1 o2 n1 n2=>?_⟩
 have f1:o1.isFreed=false:=by clear n2;rcases n1 with ⟨rfl,_⟩|⟨rfl,_⟩<;>rfl
 clear f1;have f2:o2.isFreed=false:=by rcases n2 with ⟨rfl,_⟩|⟨rfl,_⟩<;>rfl
 clear n2;refine⟨⟨_,by heap_get,rfl⟩,h _ (by heap_get) (by heap_get) ?_ ?_⟩
 ·refine q1 o1 ?_;intro Q;rcases n1 with ⟨rfl,h1⟩|⟨rfl,h1⟩
  ·exact .inl ⟨l1,⟨_,Heap.get?_push_of_some _ (Heap.get?_push_of_some _ (Heap.get?_push_of_some _ (Heap.get?_push_of_some _ (Heap.get?_push_size _ rfl)))),rfl,rfl⟩,((((h1.push _).push _).push _).push _).push _⟩
  ·exact .inr ⟨l1,⟨_,Heap.get?_push_of_some _ (Heap.get?_push_of_some _ (Heap.get?_push_of_some _ (Heap.get?_push_of_some _ (Heap.get?_push_size _ rfl)))),rfl,rfl⟩,((((h1.push _).push _).push _).push _).push _⟩
 ·exact fun c o x=>Heap.get?_push_of_some _ (Heap.get?_push_of_some _ (Heap.get?_push_of_some _ (Heap.get?_push_of_some _ (Heap.get?_push_of_some _ x))))
end
section
variable {c:Cx} {C:CT} {d:Nat} {sc scope:Scope} {V V':Vw} {m m₁ m₂:Mp} {σ σ₁ σ₂:H} {s s₁ s₂:Shared} {W:Addr→Prop} {env:Env} {ρ ρ':Lc} {A:Around} {own:List Nat}
theorem DK (R:Rep c m σ s.heap){p:PV}{v:Value}(h:Nk p σ=true)(y:Val c m σ.length s.heap p v):∃a,v=.ref a∧(s.heap.IsList a #[]∨s.heap.IsTuple a #[]):=by
 obtain⟨Z,e⟩:=Option.isSome_iff_exists.mp h
 refine Yf e (fun e=>?_) fun e=>?_
 ·refine vT e y fun l a vs e ht hv=>?_
  cases l with
  |nil=>cases hv;exact⟨a,rfl,.inr ht⟩
  |cons _ _=>exact fo e
 ·refine vL R e y fun j l vs e el hl hv=>?_
  clear el;cases l with
  |nil=>cases hv;exact⟨_,rfl,.inl hl.is⟩
  |cons _ _=>exact fo e
inductive ZpA (s:Shared) (m₁:Mp) (σ₁:H) (a:Addr) (h:Heap):Prop
 |mk (i1 TI TO:Addr) (kz:IsZip h a TI TO .none) (kT:IsPair h TI (.ref i1) (.ref (i1+1))) (kI:Wb h i1) (hn:s.heap.get? a=none) (off:∀l,l<σ₁.length→m₁.μ l≠a) (hn1:s.heap.get? i1=none) (off1:∀l,l<σ₁.length→m₁.μ l≠i1)
theorem Ob {h h₁:Heap}(S:Stp c W m σ h m₁ σ₁ h₁)(n:Nat):h.get? (h₁.objs.size+n)=none:=by
 cases z:h.get? (h₁.objs.size+n)with
 |none=>rfl
 |some o=>obtain⟨o',e'⟩:=S.stay _ _ z;exact absurd (Heap.lt_size e') (Nat.not_lt.mpr (Nat.le_add_right _ _))
theorem Ov {h:Heap}(R:Rep c m σ h)(n:Nat):∀l,l<σ.length→m.μ l≠h.objs.size+n:=fun l hl q=>Nat.not_lt.mpr (Nat.le_add_right h.objs.size n) (q▸R.lt hl)
theorem Rep.gnone {h:Heap}{b:Addr}(R:Rep c m σ h)(hb:h.get? b=none):c.g.get? b=none:=by
 cases z:c.g.get? b with
 |none=>rfl
 |some o=>rw[R.base _ _ z]at hb;cases hb
theorem Hq {elt target ea eb:PySem.Expr}{ifs:List PySem.Expr}{x:Str}{pn pc pos:Pos}{t:Tg}{fa fb:EX}{fifs:List TX}{felt:EX}
  (K:WY sc scope V V' (QX t)) (hxs:∀x∈YE target,(x,NameKind.free)∉scope.names) (G:Gd c) (hb:Jm c sc x (.type "zip")) (Sa:Snd c C d sc V ea fa) (Sb:Snd c C d sc V eb fb) (hpa:QB ea=true) (hpb:QB eb=true)
  (hs:∀env y,env.scope=sc→foldedSetIterable (.Call (.Name x pn) [ea,eb] [] pc) env y=pure y):ZI c C d sc scope V (.ListComp elt [⟨target,.Call (.Name x pn) [ea,eb] [] pc,ifs,0⟩] scope pos) (.Call (.Name x pn) [ea,eb] [] pc) (QJ (OK fa fb) t fifs felt):=fun{A s env m σ σ' ρ r p' use Q} O AK R F h fin=>by
 refine q0 ?_;intro Q;obtain⟨src,σ₁,e1,h⟩:=Qh h
 obtain⟨u,σ₃,e2,h⟩:=Qh h
 cases h
 clear h;clear h;obtain⟨q1,σ₄,e3,e1⟩:=Qh e1
 obtain⟨q2,σ₆,e4,e1⟩:=Qh e1
 split at e1
 case isFalse=>refine q0 ?_;intro Q;cases e1
 rename_i hem
 obtain⟨rfl,rfl⟩:Src.tup []=src∧σ₆=σ₁:=by clear e2 fin;cases e1;exact⟨rfl,rfl⟩
 delta QZ BG YQ at e2
 simp only[List.getElem?_nil]at e2
 cases e2
 obtain⟨hv,hu⟩:=Bool.and_eq_true_iff.mp hem
 refine Nv (xs:=YE target) K hxs hs O R F (FST:=fun a m₁ s₂=>ZpA s m₁ σ₆ a s₂.heap) ?_ (fun{a m₁ s₁ env' m₂ acc s₂} I H=>?_) (fin rfl)
 ·refine Call_Name rfl (Zu G O R hb (HO (es:=[ea,eb]) (by simp[hpa,hpb]) (by simp) (JJ.two2 Sa Sb hpa hpb O AK R F e3 e4 fun m₁ v u s₁ x1 y1 y2=>?_)))
  obtain⟨l1,rfl,k1⟩:=DK x1.rep hv y1
  obtain⟨l2,rfl,k2⟩:=DK x1.rep hu y2
  refine Ik k1 k2 fun hz kz kT kI kk=>wpAny_pyIter_zip kz ?_
  exact⟨_,m₁,rfl,x1.trans ⟨hz,s₁.toks,rfl,.grow x1.rep kk⟩,s₁.heap.objs.size,_,_,kz,kT,kI,Ob x1.stp 4,Ov x1.rep 4,Ob x1.stp 0,Ov x1.rep 0⟩
 ·refine q0 ?_;intro Q;obtain⟨i1,TI,TO,kz,kT,kI,hn,off,hn1,off1⟩:=I
  obtain⟨oi,hoi,hai,hci⟩:=kI.obj
  refine⟨fun q=>wpAny_pyIter_zip (H.kp _ _ kz) q,fun hP=>Uf (fun Z s'=>s'=s₂) rfl (Ox ..) (fun n s' e=>?_) 0 rfl⟩
  simp only[e]
  refine UO AK.handled (H.kp _ _ kz) (H.kp _ _ kT) (kI.keep fun b o e Z=>H.kp b o e) fun h₅ h₆ h₇ a1 a2 a3 a4=>hP _ ?_
  obtain⟨oz,az,cz⟩:=a2
  have ine:i1≠a:=fun q=>by clear hai;rw[q,kz]at hoi;cases hoi;simp at hci
  have nWa:=H.nW _ _ kz hn
  have nWi:=H.nW _ _ hoi hn1
  have zAl:∀{o:Obj},o.cls=.type "zip"→Oy o:=fun hc=>⟨fun C d q=>(by subst q;cases hc),fun Z Z q=>(by rw[q]at hc;simp at hc)⟩
  have offa:=H.off _ _ kz off
  have T1:=(H.S.weak (W':=WO env' (YE target)) fun Z w=>w.elim).fin (W:=WO env' (YE target)) hn (fun b w=>.inl w) (H.kp _ _ kz) (zAl rfl) offa (R.gnone hn) a1
  have T2:=T1.1.fin (W:=WO env' (YE target)) hn1 (fun b w=>.inl w) (a1 _ _ ine (H.kp _ _ hoi)) hai (H.off _ _ hoi off1) (R.gnone hn1) a3
  have T3:=T2.1.fin (W:=WO env' (YE target)) hn (fun b w=>.inl w) (a3 _ _ (Ne.symm ine) az) (zAl cz) offa (R.gnone hn) a4
  exact⟨m₂,H.u.trans ⟨h₇,s₂.toks,rfl⟩,T3.1,((H.F.ext a1 T1.2 (fun q=>nWa (.inl q.symm)) (fun y b e q=>nWa (.inr ⟨y,q▸e⟩))).ext a3 T2.2 (fun q=>nWi (.inl q.symm)) (fun y b e q=>nWi (.inr ⟨y,q▸e⟩))).ext a4 T3.2 (fun q=>nWa (.inl q.symm)) (fun y b e q=>nWa (.inr ⟨y,q▸e⟩)),by simp,H.hφ⟩
end
end Mine.Tactic
namespace Mine.Tactic
def dfV:PySem.Stmt→List PySem.Stmt×Scope
 |.FunctionDef _ _ b _ _ _ s _ _ _=>(b,s)
 |.ClassDef _ _ _ b _ _ _ _ _ _ _=>(b,default)
 |_=>([],default)
def QbS (s:PySem.Stmt):List PySem.Stmt:=(dfV s).1
def fnB (s:PySem.Stmt):List PySem.Stmt:=(dfV s).1
def fnS (s:PySem.Stmt):Scope:=(dfV s).2
def Qa2:List PySem.Stmt:=PySem.Challenge.pw_pq0728_01.main.body
def Yr (ti:Nat):PySem.Stmt:=nth (.Pass default) Qa2 ti
def Qz (ti j:Nat):PySem.Stmt:=nth (.Pass default) (QbS (Yr ti)) j
section
variable {α:Type} {p a b c d e f g h i j k l m n o q s t u v w x y z:α} {r:List α}
theorem m0:p∈p::r:=.head _
theorem m1:p∈a::p::r:=.tail _ m0
theorem m2:p∈a::b::p::r:=.tail _ m1
theorem m3:p∈a::b::c::p::r:=.tail _ m2
theorem m4:p∈a::b::c::d::p::r:=.tail _ m3
theorem m5:p∈a::b::c::d::e::p::r:=.tail _ m4
theorem m6:p∈a::b::c::d::e::f::p::r:=.tail _ m5
theorem m7:p∈a::b::c::d::e::f::g::p::r:=.tail _ m6
theorem m8:p∈a::b::c::d::e::f::g::h::p::r:=.tail _ m7
end
def VN (V:Vw):Prop:=∀p∈V,(p.2==("__debug__":Str))=false∧(p.2==("__classdict__":Str))=false
noncomputable instance (V:Vw):Decidable (VN V):=inferInstanceAs (Decidable (∀p∈V,_))
def ZM:List (Str×Nat):=[(ofString "tuple_of",0),(ofString "parts_of_kind",1),(ofString "substituted",2),(ofString "free_vars",3),(ofString "left_cases",6),(ofString "tuple_cases",7),(ofString "is_empty",8),(ofString "tail_of",9),(ofString "tuple_ways",18),(ofString "is_subtype",19),(ofString "same_kind",20),(ofString "matched",21),(ofString "names_within",22),(ofString "intersection",30),(ofString "is_more_specific",52),(ofString "is_ahead_of_all",53),(ofString "best_of",54),(ofString "_law_jar",68),(ofString "_law_pick",69),(ofString "_law_words",70),(ofString "_law_tuple",71),(ofString "_law_covers",72),(ofString "_law_meets",73),(ofString "_law_answer",74),(ofString "_law_put",75),(ofString "law",76)]
def Wz:List (Str×Nat):=[(ofString "Sides",0),(ofString "Search",1),(ofString "Meeting",2),(ofString "Edges",3),(ofString "Worlds",4),(ofString "Decl",5),(ofString "Kinds",6),(ofString "Method",7),(ofString "Table",8),(ofString "Tables",9)]
def Bk:List Str:=[ofString "len",ofString "int",ofString "max",ofString "range",ofString "sorted",ofString "tuple",ofString "list",ofString "dict",ofString "zip"]
def Bs:List (Str×PV):=[(ofString "ANY",Zb),(ofString "BOTTOM",QS),(ofString "TYPE",Ku),(ofString "FUNCTION",LA),(ofString "MOST_CASES",(.int 64)),(ofString "FIRST_WORLD",(.int 1))]
theorem f1:(ofString "parts_of_kind",1)∈ZM:=List.mem_of_getElem? (i:=1) rfl
structure Tp (c:Cx):Prop where
 fn:∀p∈ZM,c.mg p.1=some (.ref (c.fnA p.2))
 cl:∀p∈Wz,c.mg p.1=some (.ref (c.clsA p.2))
 no:∀x∈Bk,c.mg x=none
 gl:∀p∈Bs,Xe c p.1 p.2
 over:G6 c (ofString "_law_over")
section
variable {c:Cx} {C:CT} {d:Nat} {sc:Scope} {V:Vw}
theorem sV {i:Nat}{x:Str}{pos}(N:VN V)(h:(i,x)∈V):Snd c C d sc V (.Name x pos) (Qa i):=Ua h (N _ h).1 (N _ h).2
theorem y4 {k pos}:Snd c C d sc V (.Constant (.str (ofString "all")) k pos) (Qs 4):=IF (by decide) rfl
theorem y5 {k pos}:Snd c C d sc V (.Constant (.str (ofString "var")) k pos) (Qs 5):=IF (by decide) rfl
def gOk (sc:Scope)(x:Str):Prop:=sc.names.lookup x=some .globalImplicit∧(x==("__debug__":Str))=false
noncomputable instance (sc:Scope) (x:Str):Decidable (gOk sc x):=inferInstanceAs (Decidable (_∧_))
theorem sG {x:Str}{p:PV}{pos}(G:Kf c)(T:Tp c)(h:(x,p)∈Bs)(k:gOk sc x):Snd c C d sc V (.Name x pos) (JF p):=Tu G.toGd (T.gl _ h) k.1 k.2
theorem bI {x:Str}{v:Value}(T:Tp c)(h:x∈Bk)(k:gOk sc x)(b:bootBuiltins x=some v∧x≠"__name__"):Jm c sc x v:=⟨k.1,k.2,T.no _ h,b.1,b.2⟩
theorem Xv {x:Str}{f:Nat}{es:List PySem.Expr}{fs:List EX}{p pos:Pos}(G:Kf c)(T:Tp c)(HC:YP c d C)(h:(x,f)∈ZM)(k:gOk sc x)(L:JJ c C d sc V es fs)(hf:f<NF)(hp:es.all QB=true)(hne:es≠[]):Snd c C d sc V (.Call (.Name x p) es [] pos) (Qn f fs):=
 KP G HC hf ⟨k.1,k.2,T.fn _ h⟩ L hp hne
theorem Qbe {x:Str}{cl:Nat}{es:List PySem.Expr}{fs:List EX}{p pos:Pos}(G:Kf c)(T:Tp c)(HC:YP c d C)(h:(x,cl)∈Wz)(k:gOk sc x)(L:JJ c C d sc V es fs)(hp:es.all QB=true)(hne:es≠[]):Snd c C d sc V (.Call (.Name x p) es [] pos) (Jl cl fs):=
 Ss G HC ⟨k.1,k.2,T.cl _ h⟩ L hp hne
theorem Ct {x:Str}{cl:Nat}{p pos:Pos}(G:Kf c)(T:Tp c)(HC:YP c d C)(h:(x,cl)∈Wz)(k:gOk sc x):Snd c C d sc V (.Call (.Name x p) [] [] pos) (Jl cl []):=
 L0 G HC ⟨k.1,k.2,T.cl _ h⟩
theorem SL {es:List PySem.Expr}{pos:Pos}{env:Env}(hp:es.all QB=true)(hl:es.length<30):methodCallForm (es.length+0) (backTo pos (starEach es env)) (backToKw pos (keywordEach [] env))=true:=by
 have h:=Zp (env:=env) (pos:=pos) hp
 unfold methodCallForm
 have e2:(backToKw pos (keywordEach [] env))=[]:=rfl
 rw[e2]
 simp only[List.all_nil,List.isEmpty_nil,if_true,Bool.and_true,Bool.and_eq_true,decide_eq_true_eq,List.all_eq_true,Bool.not_eq_true']
 refine⟨fun x hx=>?_,by omega⟩
 rw[List.any_eq_false]at h
 simpa using h x hx
theorem WM {o:PySem.Expr}{x:Str}{apos pos:Pos}{es:List PySem.Expr}(hp:es.all QB=true)(hl:es.length<30)(ho:∀env w,attributeBase o x env w=w)(hq:(apos.endLine==pos.line)=true):JN o x apos pos es:=fun env=>
 ⟨_,by
  show(do
   let ov ←attributeBase o x env (eval o env)
   standAt apos.atName
   methodCall o x apos pos env ov (es.length+0) (backTo pos (starEach es env)) (backToKw pos (keywordEach [] env)))=_
  delta methodCall methodCallPos
  rewrite [ho,SL hp hl,hq]
  rfl⟩
theorem QbK {value:PySem.Expr}{x:Str}{pos:Pos}(ho:∀env w,attributeBase value x env w=w):∀env,eval (.Attribute value x pos) env=(do
  let o ←eval value env
  standAt pos.atName
  let r ←holding [o] (getAttr o x true)
  letTemporaryGo value o r
  pure r):=fun env=>by
 show(do
  let o ←attributeBase value x env (eval value env)
  standAt pos.atName
  let r ←holding [o] (getAttr o x true)
  letTemporaryGo value o r
  pure r)=_
 rw[ho]
theorem Ez {x:Str}{e:PySem.Expr}{p pos:Pos}{a:EX}(G:Kf c)(hb:Jm c sc x (.builtin "len"))(S:Snd c C d sc V e a)(hp:QB e=true):Snd c C d sc V (.Call (.Name x p) [e] [] pos) (Yl a):=
 FQ G.toGd hb (Ay G.toKd) S hp
theorem sAt {value:PySem.Expr}{k:Nat}{x:Str}{pos:Pos}{a:EX}(G:Kf c)(hx:x=Q6 k)(Sa:Snd c C d sc V value a)
 (ho:∀env w,attributeBase value x env w=w):Snd c C d sc V (.Attribute value x pos) (Qk a k):=KB G.toKd hx Sa (QbK ho)
theorem D7 {o e:PySem.Expr}{apos pos:Pos}{a b:EX}(S:Snd c C d sc V o a)(S':Snd c C d sc V e b)(hp:QB e=true)(he:JN o (ofString "append") apos pos [e]):Snd c C d sc V (.Call (.Attribute o (ofString "append") apos) [e] [] pos) (Q8 a b):=
 HU PySem.F.slot_list_append PySem.F.type_list_append Go S S' hp he
theorem MG {o e:PySem.Expr}{apos pos:Pos}{a b:EX}(S:Snd c C d sc V o a)(S':Snd c C d sc V e b)(hp:QB e=true)(he:JN o (ofString "extend") apos pos [e]):Snd c C d sc V (.Call (.Attribute o (ofString "extend") apos) [e] [] pos) (J3 a b):=
 HU PySem.F.slot_list_extend PySem.F.type_list_extend Ko S S' hp he
theorem Te {o:PySem.Expr}{apos pos:Pos}{a:EX}(S:Snd c C d sc V o a)(he:JN o (ofString "pop") apos pos []):Snd c C d sc V (.Call (.Attribute o (ofString "pop") apos) [] [] pos) (IW a):=
 SE PySem.F.slot_list_pop PySem.F.type_list_pop Al SW S he
theorem AD {o e e':PySem.Expr}{apos pos:Pos}{a b b':EX}(G:Kf c)(S:Snd c C d sc V o a)(S':Snd c C d sc V e b)(S'':Snd c C d sc V e' b')(hp:QB e=true)(hp':QB e'=true)(he:JN o (ofString "get") apos pos [e,e']):Snd c C d sc V (.Call (.Attribute o (ofString "get") apos) [e,e'] [] pos) (P9 a b b'):=
 HJ PySem.F.slot_dict_get PySem.F.type_dict_get (Ae G.toKd) S S' S'' hp hp' he
theorem L1 {o e e':PySem.Expr}{apos pos:Pos}{a b b':EX}(G:Kf c)(S:Snd c C d sc V o a)(S':Snd c C d sc V e b)(S'':Snd c C d sc V e' b')(hp:QB e=true)(hp':QB e'=true)(he:JN o (ofString "setdefault") apos pos [e,e']):Snd c C d sc V (.Call (.Attribute o (ofString "setdefault") apos) [e,e'] [] pos) (WD a b b'):=
 HJ PySem.F.slot_dict_setdefault PySem.F.type_dict_setdefault (LV G.toKd) S S' S'' hp hp' he
theorem YZ {e:PySem.Expr}:Jy c C d sc V e (tE QR):=fun Z Z Z Z Z Z Z Z Z Z Z Z=>fo
theorem Ao {l slice:PySem.Expr}{p0 p1 pos:Pos}{a b:EX}(G:Kf c)(T:Tp c)(k:gOk sc (ofString "_law_over"))(Sa:Snd c C d sc V l a)(Sb:Snd c C d sc V slice b)(hs:∀o i,subscripted slice false o i=operate [o,i] (getItem o i)):
 Jy c C d sc V (.Compare l [.NotIn] [.Subscript (.Name (ofString "_law_over") p0) slice p1] pos) (tE (Y5 a b)):=Dz G.toKd T.over k.1 k.2 hs Sa Sb rfl
theorem Kq (T:Tp c)(k:gOk sc (ofString "len")):Jm c sc (ofString "len") (.builtin "len"):=bI T m0 k ⟨by kernel_rfl,by decide+kernel⟩
theorem Xa (T:Tp c)(k:gOk sc (ofString "int")):Jm c sc (ofString "int") (.type "int"):=bI T m1 k ⟨by kernel_rfl,by decide+kernel⟩
theorem Xj (T:Tp c)(k:gOk sc (ofString "max")):Jm c sc (ofString "max") (.builtin "max"):=bI T m2 k ⟨by kernel_rfl,by decide+kernel⟩
theorem R6 (T:Tp c)(k:gOk sc (ofString "range")):Jm c sc (ofString "range") (.type "range"):=bI T m3 k ⟨by kernel_rfl,by decide+kernel⟩
theorem Tb (T:Tp c)(k:gOk sc (ofString "sorted")):Jm c sc (ofString "sorted") (.builtin "sorted"):=bI T m4 k ⟨by kernel_rfl,by decide+kernel⟩
theorem S6 (T:Tp c)(k:gOk sc (ofString "tuple")):Jm c sc (ofString "tuple") (.type "tuple"):=bI T m5 k ⟨by kernel_rfl,by decide+kernel⟩
theorem Ex (T:Tp c)(k:gOk sc (ofString "list")):Jm c sc (ofString "list") (.type "list"):=bI T m6 k ⟨by kernel_rfl,by decide+kernel⟩
theorem V0 (T:Tp c)(k:gOk sc (ofString "dict")):Jm c sc (ofString "dict") (.type "dict"):=bI T m7 k ⟨by kernel_rfl,by decide+kernel⟩
theorem Ci (T:Tp c)(k:gOk sc (ofString "zip")):Jm c sc (ofString "zip") (.type "zip"):=bI T m8 k ⟨by kernel_rfl,by decide+kernel⟩
theorem a4:ofString "kinds"=Q6 4:=rfl
theorem a5:ofString "fuel"=Q6 5:=rfl
theorem a7:ofString "step"=Q6 7:=rfl
theorem a8:ofString "are_concrete"=Q6 8:=rfl
theorem a22:ofString "table"=Q6 22:=rfl
theorem a24:ofString "world_from"=Q6 24:=rfl
theorem a41:ofString "number"=Q6 41:=rfl
theorem a50:ofString "all"=Q6 50:=rfl
theorem a51:ofString "world"=Q6 51:=rfl
theorem a52:ofString "add"=Q6 52:=rfl
def Gb (sc scope:Scope)(V V':Vw)(own:List Nat):Prop:=
 (decide (scope.kind=.function)&&scope.names.all (fun x=>decide (x.2=.local→scope.names.lookup x.1=some .local))&&scope.names.all (fun x=>decide (x.2=.free→sc.names.lookup x.1=some .cell∧x.1∈V.map (·.2)))&&
 V'.all (fun p=>decide ((p.1∈own∧((QI scope sc).names.lookup p.2=some .local∨((QI scope sc).names.lookup p.2=some .cell∧(p.2,NameKind.cell)∈scope.names∧(p.2,NameKind.free)∉scope.names)))∨
  (p.1∉own∧p∈V∧(p.2,NameKind.free)∈scope.names∧(p.2,NameKind.cell)∉scope.names∧(QI scope sc).names.lookup p.2=some .cell)))&&
 decide (V'.map (·.2)).Nodup&&decide (V'.map (·.1)).Nodup)=true
noncomputable instance (sc scope:Scope) (V V':Vw) (own:List Nat):Decidable (Gb sc scope V V' own):=inferInstanceAs (Decidable (_=true))
theorem G9 {scope:Scope}{V':Vw}{own:List Nat}(h:Gb sc scope V V' own):WY sc scope V V' own:=by
 unfold Gb at h
 simp only[Bool.and_eq_true,List.all_eq_true,decide_eq_true_eq]at h
 obtain⟨⟨⟨⟨⟨h1,h2⟩,h3⟩,h4⟩,h5⟩,h6⟩:=h
 refine⟨h1,h2,fun x hx=>?_,h4,h5,h6⟩
 obtain⟨a,b⟩:=h3 _ hx rfl
 obtain⟨p,hp,e⟩:=List.mem_map.mp b
 exact⟨a,p.1,by have e:p.2=x:=e;rw[←e];exact hp⟩
theorem swC {elt:PySem.Expr}{gens:List Comprehension}{scope:Scope}{pos:Pos}{x:Str}{p:Pos}{line:Nat}{b:Bool}(h:((if sc.kind.isAnnotationScope then ScopeKind.function else sc.kind)==.function&&sc.names.lookup x==some .local&&p.line==pos.line&&!(scope.names.any fun q=>q.1==x&&(q.2==.local||q.2==.cell)))=b):
  ∀env,env.scope=sc→swapsWith (.ListComp elt gens scope pos) (some (.Name x p)) line env=pure b:=fun env e=>by
 subst e
 subst h
 rfl
theorem HE {p:Env→Prop}{sc:Scope}(h:∀env:Env,p {env with scope:=sc}):∀env,env.scope=sc→p env:=fun env e=>by have:=h env;rw[←e]at this;exact this
end
end Mine.Tactic
namespace Mine.Tactic
section
variable {α:Type}
def asc:List (Str×α)→Str→Option α
 |[],_=>none
 |p::r,x=>cond (decide (p.1=x)) (some p.2) (asc r x)
theorem Ml {l:List (Str×α)}{x:Str}{a:α}(h:asc l x=some a):(x,a)∈l:=by
 refine q2 l a ?_;intro Q;induction l with
 |nil=>cases h
 |cons p r ih=>
  obtain⟨y,b⟩:=p
  by_cases q:y=x
  ·have h:cond (decide (y=x)) (some b) (asc r x)=some a:=h
   rw[decide_eq_true q]at h
   cases h
   rw[q]
   exact .head _
  ·have h:cond (decide (y=x)) (some b) (asc r x)=some a:=h
   rw[decide_eq_false q]at h
   exact .tail _ (ih h)
def lkV (V:Vw)(x:Str):Option Nat:=asc (V.map fun p=>(p.2,p.1)) x
theorem W6 {V:Vw}{x:Str}{i:Nat}(h:lkV V x=some i):(i,x)∈V:=by
 obtain⟨p,hp,e⟩:=List.mem_map.mp (Ml h)
 clear h;obtain⟨a,b⟩:=p
 cases e
 exact hp
def GA (f:Nat→Str):Nat→Str→Option Nat
 |0,_=>none
 |n+1,x=>cond (decide (x=f n)) (some n) (GA f n x)
theorem Bp {f:Nat→Str}{x:Str}{k:Nat}:∀{n:Nat},GA f n x=some k→k<n∧x=f k:=by
 intro n
 induction n with
 |zero=>intro h;cases h
 |succ n ih=>
  intro h
  have h:cond (decide (x=f n)) (some n) (GA f n x)=some k:=h
  by_cases q:x=f n
  clear ih;· rw[decide_eq_true q]at h;cases h;exact⟨Nat.lt_succ_self _,q⟩
  ·rw[decide_eq_false q]at h;exact⟨Nat.lt_succ_of_lt (ih h).1,(ih h).2⟩
structure CC where
 E:Scope→Vw→PySem.Expr→EX
 T:Scope→Vw→PySem.Expr→TX
def gB (sc:Scope)(x:Str):Bool:=decide (gOk sc x)
def okN (sc:Scope)(x:Str):Bool:=!decide (sc.names.lookup x=some .free)
theorem BY {sc:Scope}{x:Str}(h:okN sc x=true):sc.names.lookup x≠some .free:=fun q=>by unfold okN at h;rw[decide_eq_true q]at h;cases h
def cK (v:Const):EX:=match v with
 |.none=>QT
 |.bool b=>YH b
 |.int i=>Qj i
 |.str s=>(GA JY NS s).elim QR Qs
 |_=>QR
def cN (sc:Scope)(V:Vw)(x:Str):EX:=(lkV V x).elim ((asc Bs x).elim QR fun p=>cond (gB sc x) (JF p) QR)
 fun i=>cond (!(x==("__debug__":Str))) (cond (!(x==("__classdict__":Str))) (Qa i) QR) QR
def Ah (op:Operator)(a b:EX):EX:=match op with
 |.Add=>Jx a b
 |.Sub=>PH a b
 |.Mult=>Rk a b
 |.FloorDiv=>Px a b
 |.Mod=>PW a b
 |.Pow=>XU a b
 |_=>QR
def RW (op:CmpOp)(a b:EX):EX:=match op with
 |.Eq=>eEq a b
 |.NotEq=>eNe a b
 |.Lt=>eLt a b
 |.LtE=>eLe a b
 |.Gt=>eGt a b
 |.GtE=>eGe a b
 |.Is=>eIs a b
 |.IsNot=>ZC a b
 |.In=>eIn a b
 |.NotIn=>Zz a b
def abF (b:Bool):N1→Bool
 |.att ..=>true
 |.name ..=>b
 |_=>false
def abN:N1→Bool
 |.call f as _ _=>abF (!as.isEmpty) (vx f)
 |.oth=>false
 |_=>true
def abB (e:PySem.Expr):Bool:=abN (vx e)
theorem Kz {e:PySem.Expr}{x:Str}:abB e=true→∀env w,attributeBase e x env w=w:=
 Jn (Q:=fun n e=>abN n=true→∀env w,attributeBase e x env w=w) fun n=>by
  refine q1 n ?_;intro Q;cases n with
  |call f as ks p=>
   exact Jn (Q:=fun n f=>abF (!as.isEmpty) n=true→∀env w,attributeBase (.Call f as ks p) x env w=w) fun n h=>by
    refine q2 as n ?_;intro Q;cases n with
    |att=>exact fun Z Z=>rfl
    |name=>
     refine q1 as ?_;intro Q;cases as with
     |nil=>exact ff h
     |cons=>exact fun Z Z=>rfl
    |_=>exact ff h
  |oth=>exact ff
  |_=>exact fun Z Z Z=>rfl
def Eu:N1→Bool
 |.oth=>false
 |_=>true
def nSl (e:PySem.Expr):Bool:=Eu (vx e)
theorem LT {e:PySem.Expr}:nSl e=true→∀o i,subscripted e false o i=operate [o,i] (getItem o i):=
 Jn (Q:=fun n e=>Eu n=true→∀o i,subscripted e false o i=operate [o,i] (getItem o i)) fun n=>by
  refine q1 n ?_;intro Q;cases n with
  |oth=>exact ff
  |_=>exact fun Z Z Z=>rfl
theorem Ub {sc:Scope}{e:PySem.Expr}:nSl e=true→∀env x,env.scope=sc→foldedSetIterable e env x=pure x:=
 Jn (Q:=fun n e=>Eu n=true→∀(env:Env) x,env.scope=sc→foldedSetIterable e env x=pure x) fun n=>by
  refine q1 n ?_;intro Q;cases n with
  |oth=>exact ff
  |_=>exact fun Z Z Z Z=>rfl
def At:N1→Bool
 |.oth=>false
 |.lc ..=>false
 |_=>true
def nCm (e:PySem.Expr):Bool:=At (vx e)
theorem UK {sc:Scope}{e:PySem.Expr}{t:Option PySem.Expr}{l:Nat}:nCm e=true→∀env,env.scope=sc→swapsWith e t l env=pure false:=
 Jn (Q:=fun n e=>At n=true→∀env:Env,env.scope=sc→swapsWith e t l env=pure false) fun n=>by
  refine q1 n ?_;intro Q;cases n with
  |oth=>exact ff
  |lc=>exact ff
  |_=>exact fun Z Z Z=>rfl
def As:N1→Bool
 |.name ..=>true
 |.att ..=>true
 |.sub ..=>true
 |.call ..=>true
 |.con ..=>true
 |_=>false
def plT (e:PySem.Expr):Bool:=As (vx e)
theorem Va {e:PySem.Expr}:plT e=true→∀env,isTrue e env (eval e env)=(do let v ←eval e env;standAt e.pos;holding [v] (truthy v)):=
 Jn (Q:=fun n e=>As n=true→∀env,isTrue e env (eval e env)=(do let v ←eval e env;standAt e.pos;holding [v] (truthy v))) fun n=>by
  refine q1 n ?_;intro Q;cases n with
  |name=>exact fun Z Z=>rfl
  |att=>exact fun Z Z=>rfl
  |sub=>exact fun Z Z=>rfl
  |call=>exact fun Z Z=>rfl
  |con=>exact fun Z Z=>rfl
  |_=>exact ff
def QaJ (K:CC)(sc:Scope)(V:Vw)(x:Str)(a:PySem.Expr):EX:=
 cond (decide (x=ofString "len")) (Yl (K.E sc V a)) (cond (decide (x=ofString "sorted")) (Wx (K.E sc V a)) (cond (decide (x=ofString "int")) (W2 (K.E sc V a))
  (cond (decide (x=ofString "tuple")) (Mg (K.E sc V a)) (cond (decide (x=ofString "list")) (W5 (K.E sc V a)) (cond (decide (x=ofString "dict")) (Uc (K.E sc V a)) QR)))))
def QbB (K:CC)(sc:Scope)(V:Vw)(x:Str)(as:List PySem.Expr):EX:=match as with
 |[a]=>QaJ K sc V x a
 |[a,b]=>cond (decide (x=ofString "max")) (T0 (K.E sc V a) (K.E sc V b)) QR
 |_=>QR
def cFn (K:CC)(sc:Scope)(V:Vw)(x:Str)(as:List PySem.Expr):EX:=cond (gB sc x&&as.all QB)
 ((asc ZM x).elim ((asc Wz x).elim (QbB K sc V x as) fun k=>Jl k (as.map (K.E sc V))) fun k=>cond (Nat.blt k NF&&!as.isEmpty) (Qn k (as.map (K.E sc V))) QR) QR
def cMt (K:CC)(sc:Scope)(V:Vw)(o:PySem.Expr)(x:Str)(as:List PySem.Expr):EX:=cond as.isEmpty QR ((GA Q6 64 x).elim QR fun k=>Qx (K.E sc V o) k (as.map (K.E sc V)))
def Xx (K:CC)(sc:Scope)(V:Vw)(o:PySem.Expr)(x:Str)(ap p:Pos)(as:List PySem.Expr):EX:=cond (abB o&&(ap.endLine==p.line)&&as.all QB&&Nat.blt as.length 30)
 (match as with
 |[]=>cond (decide (x=ofString "pop")) (IW (K.E sc V o)) QR
 |[a]=>cond (decide (x=ofString "append")) (Q8 (K.E sc V o) (K.E sc V a)) (cond (decide (x=ofString "extend")) (J3 (K.E sc V o) (K.E sc V a)) (cMt K sc V o x as))
 |[a,b]=>cond (decide (x=ofString "get")) (P9 (K.E sc V o) (K.E sc V a) (K.E sc V b)) (cond (decide (x=ofString "setdefault")) (WD (K.E sc V o) (K.E sc V a) (K.E sc V b)) (cMt K sc V o x as))
 |_=>cMt K sc V o x as) QR
def KG (K:CC)(sc:Scope)(V:Vw)(as:List PySem.Expr)(p:Pos):N1→EX
 |.name x _=>cFn K sc V x as
 |.att o x ap=>Xx K sc V o x ap p as
 |_=>QR
def Cy (K:CC)(sc:Scope)(V:Vw)(v s:PySem.Expr):EX:=cond (nSl s) (Qi (K.E sc V v) (K.E sc V s)) QR
end
section
variable {c:Cx} {C:CT} {d:Nat} {sc scope:Scope} {V V':Vw} {e:PySem.Expr} {α:Type}
theorem b1E {b:Bool}{f g:EX}(h:b=true→Snd c C d sc V e f)(h2:Snd c C d sc V e g):Snd c C d sc V e (cond b f g):=by
 cases b with
 |false=>exact h2
 |true=>exact h rfl
theorem b2E {b b2:Bool}{f g:EX}(h:b=true→b2=true→Snd c C d sc V e f)(h2:Snd c C d sc V e g):Snd c C d sc V e (cond (b&&b2) f g):=b1E (fun q=>h (Bool.and_eq_true_iff.mp q).1 (Bool.and_eq_true_iff.mp q).2) h2
theorem dE {p:Prop} [Decidable p]{f g:EX}(h:p→Snd c C d sc V e f)(h2:Snd c C d sc V e g):Snd c C d sc V e (cond (decide p) f g):=b1E (fun q=>h (of_decide_eq_true q)) h2
theorem oE {o:Option α}{f:α→EX}{g:EX}(h:∀a,o=some a→Snd c C d sc V e (f a))(h2:Snd c C d sc V e g):Snd c C d sc V e (o.elim g f):=by
 cases o with
 |none=>exact h2
 |some a=>exact h a rfl
theorem Cj {b:Bool}(h:(!b)=true):b=false:=by
 cases b with
 |false=>rfl
 |true=>cases h
theorem DR {x:Str}(h:gB sc x=true):gOk sc x:=of_decide_eq_true h
structure Ok (c:Cx) (C:CT) (d:Nat) (K:CC):Prop where
 E:∀sc V e,Snd c C d sc V e (K.E sc V e)
 T:∀sc V e,Jy c C d sc V e (K.T sc V e)
theorem Ok.L {K:CC}(O:Ok c C d K):∀es,JJ c C d sc V es (es.map (K.E sc V)):=by
 intro es
 induction es with
 |nil=>exact .nil
 |cons e es ih=>exact .cons (O.E sc V e) ih
theorem Ok.TL {K:CC}(O:Ok c C d K):∀es,ZS c C d sc V es (es.map (K.T sc V)):=by
 intro es
 induction es with
 |nil=>exact .nil
 |cons e es ih=>exact .cons (O.T sc V e) ih
theorem AH {v:Const}{k:Nat}{p:Pos}:Snd c C d sc V (.Constant v k p) (cK v):=by
 cases v with
 |none=>exact Ul
 |bool b=>exact K2
 |int i=>exact YS
 |str s=>exact oE (fun k h=>IF (Bp h).1 (Bp h).2) Qw
 |_=>exact Qw
theorem C2 (G:Kf c)(T:Tp c){x:Str}{p:Pos}:Snd c C d sc V (.Name x p) (cN sc V x):=
 oE (fun i h=>b1E (fun a=>b1E (fun b=>Ua (W6 h) (Cj a) (Cj b)) Qw) Qw) (oE (fun q h=>b1E (fun a=>sG G T (Ml h) (DR a)) Qw) Qw)
theorem Ru {op:Operator}{l r:PySem.Expr}{p:Pos}{a b:EX}(A:Snd c C d sc V l a)(B:Snd c C d sc V r b):Snd c C d sc V (.BinOp l op r p) (Ah op a b):=by
 cases op with
 |Add=>exact Jc FR A B
 |Sub=>exact Jc Xu A B
 |Mult=>exact Jc Ad A B
 |FloorDiv=>exact Jc XP A B
 |Mod=>exact Jc Xb A B
 |Pow=>exact Jc Xm A B
 |_=>exact Qw
theorem H0 (G:Kd c){op:CmpOp}{l r:PySem.Expr}{p:Pos}{a b:EX}(A:Snd c C d sc V l a)(B:Snd c C d sc V r b)(h:behindInMarks op r=false):Snd c C d sc V (.Compare l [op] [r] p) (RW op a b)∧Jy c C d sc V (.Compare l [op] [r] p) (tE (RW op a b)):=by
 cases op with
 |Eq=>exact⟨Jv Kb A B h,Q9 Kb A B h⟩
 |NotEq=>exact⟨Jv SV A B h,Q9 SV A B h⟩
 |Lt=>exact⟨Jv Am A B h,Q9 Am A B h⟩
 |LtE=>exact⟨Jv Ab A B h,Q9 Ab A B h⟩
 |Gt=>exact⟨Jv VQ A B h,Q9 VQ A B h⟩
 |GtE=>exact⟨Jv TP A B h,Q9 TP A B h⟩
 |Is=>exact⟨Jv AV A B h,Q9 AV A B h⟩
 |IsNot=>exact⟨Jv HW A B h,Q9 HW A B h⟩
 |In=>exact⟨Jv (CH G) A B h,Q9 (CH G) A B h⟩
 |NotIn=>exact⟨Jv (H5 G) A B h,Q9 (H5 G) A B h⟩
theorem LU {a:PySem.Expr}{p:PySem.Expr→Bool}(h:[a].all p=true):p a=true:=by
 rw[List.all_cons,Bool.and_eq_true_iff]at h
 exact h.1
theorem DE {a b:PySem.Expr}{p:PySem.Expr→Bool}(h:[a,b].all p=true):p a=true∧p b=true:=by
 rw[List.all_cons,Bool.and_eq_true_iff]at h
 exact⟨h.1,LU h.2⟩
theorem E6 {K:CC}(O:Ok c C d K)(G:Kf c)(T:Tp c)(HC:YP c d C){x:Str}{pn p:Pos}{as:List PySem.Expr}:Snd c C d sc V (.Call (.Name x pn) as [] p) (cFn K sc V x as):=by
 refine b2E (fun g pl=>?_) Qw
 have g:=DR g
 refine oE (fun k h=>b2E (fun a b=>?_) Qw) (oE (fun k h=>?_) ?_)
 ·exact Xv G T HC (Ml h) g (O.L _) (Nat.le_of_ble_eq_true a) pl (fun q=>by rw[q]at b;cases b)
 ·cases as with
  |nil=>exact Ct G T HC (Ml h) g
  |cons a as=>exact Qbe G T HC (Ml h) g (O.L _) pl (List.cons_ne_nil _ _)
 ·cases as with
  |nil=>exact Qw
  |cons a as=>
   cases as with
   |nil=>
    have pa:=LU pl
    have A:=O.E sc V a
    refine dE (fun q=>?_) (dE (fun q=>?_) (dE (fun q=>?_) (dE (fun q=>?_) (dE (fun q=>?_) (dE (fun q=>?_) Qw)))))
    ·subst q;exact Ez G (Kq T g) A pa
    ·subst q;exact FQ G.toGd (Tb T g) (KJ G.toKd) A pa
    ·subst q;exact Mw G.toGd (Xa T g) Pg A pa
    ·subst q;exact Mw G.toGd (S6 T g) SU A pa
    ·subst q;exact Mw G.toGd (Ex T g) RX A pa
    ·subst q;exact Mw G.toGd (V0 T g) Tj A pa
   |cons b as=>
    cases as with
    |nil=>exact dE (fun q=>by subst q;exact L2 G.toGd (Xj T g) Xw (O.E sc V a) (O.E sc V b) (DE pl).1 (DE pl).2) Qw
    |cons=>exact Qw
section
variable {o x1 x2:PySem.Expr} {x:Str} {ap p:Pos} {f a b:EX}
theorem VR (q:x=ofString "pop")(S:Snd c C d sc V o f)(he:JN o x ap p []):Snd c C d sc V (.Call (.Attribute o x ap) [] [] p) (IW f):=by subst q;exact Te S he
theorem XQ (q:x=ofString "append")(S:Snd c C d sc V o f)(A:Snd c C d sc V x1 a)(pl:[x1].all QB=true)(he:JN o x ap p [x1]):Snd c C d sc V (.Call (.Attribute o x ap) [x1] [] p) (Q8 f a):=by subst q;exact D7 S A (LU pl) he
theorem Et (q:x=ofString "extend")(S:Snd c C d sc V o f)(A:Snd c C d sc V x1 a)(pl:[x1].all QB=true)(he:JN o x ap p [x1]):Snd c C d sc V (.Call (.Attribute o x ap) [x1] [] p) (J3 f a):=by subst q;exact MG S A (LU pl) he
theorem XV (G:Kf c)(q:x=ofString "get")(S:Snd c C d sc V o f)(A:Snd c C d sc V x1 a)(B:Snd c C d sc V x2 b)(pl:[x1,x2].all QB=true)(he:JN o x ap p [x1,x2]):Snd c C d sc V (.Call (.Attribute o x ap) [x1,x2] [] p) (P9 f a b):=by subst q;exact AD G S A B (DE pl).1 (DE pl).2 he
theorem EI (G:Kf c)(q:x=ofString "setdefault")(S:Snd c C d sc V o f)(A:Snd c C d sc V x1 a)(B:Snd c C d sc V x2 b)(pl:[x1,x2].all QB=true)(he:JN o x ap p [x1,x2]):Snd c C d sc V (.Call (.Attribute o x ap) [x1,x2] [] p) (WD f a b):=by subst q;exact L1 G S A B (DE pl).1 (DE pl).2 he
end
theorem Hh {K:CC}(O:Ok c C d K)(G:Kf c)(HC:YP c d C){o:PySem.Expr}{x:Str}{ap p:Pos}{as:List PySem.Expr}(pl:as.all QB=true)(ME:JN o x ap p as):Snd c C d sc V (.Call (.Attribute o x ap) as [] p) (cMt K sc V o x as):=by
 refine q1 as ?_;intro Q;cases as with
 |nil=>exact Qw
 |cons a as=>exact oE (fun k h=>Wi G HC (Bp h).2 (O.E sc V o) (O.L _) pl (List.cons_ne_nil _ _) ME) Qw
theorem Ks {K:CC}(O:Ok c C d K)(G:Kf c)(HC:YP c d C){o:PySem.Expr}{x:Str}{ap p:Pos}{as:List PySem.Expr}:Snd c C d sc V (.Call (.Attribute o x ap) as [] p) (Xx K sc V o x ap p as):=by
 refine b2E (fun q l=>?_) Qw
 refine q1 as ?_;intro Q;obtain⟨q,pl⟩:=Bool.and_eq_true_iff.mp q
 obtain⟨ab,hl⟩:=Bool.and_eq_true_iff.mp q
 have ME:=WM (x:=x) pl (Nat.le_of_ble_eq_true l) (Kz ab) hl
 clear q l ab hl
 clear q;cases as with
 |nil=>exact dE (fun q=>VR q (O.E sc V o) ME) Qw
 |cons a as=>
  refine q1 as ?_;intro Q;cases as with
  |nil=>exact dE (fun q=>XQ q (O.E sc V o) (O.E sc V a) pl ME) (dE (fun q=>Et q (O.E sc V o) (O.E sc V a) pl ME) (Hh O G HC pl ME))
  |cons b as=>
   refine q1 as ?_;intro Q;cases as with
   |nil=>exact dE (fun q=>XV G q (O.E sc V o) (O.E sc V a) (O.E sc V b) pl ME) (dE (fun q=>EI G q (O.E sc V o) (O.E sc V a) (O.E sc V b) pl ME) (Hh O G HC pl ME))
   |cons=>exact Hh O G HC pl ME
theorem FZ {K:CC}(O:Ok c C d K)(G:Kf c)(T:Tp c)(HC:YP c d C){f:PySem.Expr}{p:Pos}{as:List PySem.Expr}:Snd c C d sc V (.Call f as [] p) (KG K sc V as p (vx f)):=
 Jn (Q:=fun n f=>Snd c C d sc V (.Call f as [] p) (KG K sc V as p n)) fun n=>by
  refine q1 n ?_;intro Q;cases n with
  |name x pn=>exact E6 O G T HC
  |att o x ap=>exact Ks O G HC
  |_=>exact Qw
theorem SR {K:CC}(O:Ok c C d K){v s:PySem.Expr}{p:Pos}:Snd c C d sc V (.Subscript v s p) (Cy K sc V v s):=b1E (fun q=>N6 (LT q) (O.E sc V v) (O.E sc V s)) Qw
end
end Mine.Tactic
namespace Mine.Tactic
section
variable {α β:Type}
theorem eN {o:Option α}{f:α→Option β}{b:β}(h:o.elim none f=some b):∃a,o=some a∧f a=some b:=by
 cases o with
 |none=>exact fo h
 |some a=>exact⟨a,rfl,h⟩
theorem cNn {b:Bool}{x:Option β}{y:β}(h:cond b x none=some y):b=true∧x=some y:=by
 cases b with
 |false=>exact fo h
 |true=>exact⟨rfl,h⟩
end
section
def GJ (s:Str)(e:PySem.Expr):Bool:=(nm1 e).elim false fun x=>decide (x=s)
theorem Iu {P:PySem.Expr→Prop}{e:PySem.Expr}{s:Str}(h:GJ s e=true)(k:∀p,P (.Name s p)):P e:=by
 unfold GJ at h
 cases q:nm1 e with
 |none=>rw[q]at h;exact ff h
 |some x=>
  rw[q]at h
  have h:x=s:=of_decide_eq_true h
  rw[h]at q
  exact K9 q k
def cIr (K:CC)(sc:Scope)(V:Vw)(e:PySem.Expr)(as:List PySem.Expr):IX:=match as with
 |[a]=>QM (K.E sc V a)
 |[a,b]=>N7 (K.E sc V a) (K.E sc V b)
 |_=>QO (K.E sc V e)
def cIn (K:CC)(sc:Scope)(V:Vw)(e:PySem.Expr):N1→IX
 |.call f as ks _=>cond (ks.isEmpty&&GJ (ofString "range") f&&(gB sc (ofString "range")&&as.all QB)) (cIr K sc V e as) (QO (K.E sc V e))
 |_=>QO (K.E sc V e)
def cI (K:CC)(sc:Scope)(V:Vw)(e:PySem.Expr):IX:=cIn K sc V e (vx e)
def nsS (sc:Scope)(V:Vw):List PySem.Expr→Option (List Nat)
 |[]=>some []
 |e::es=>(nm1 e).elim none fun x=>(lkV V x).elim none fun i=>cond (okN sc x) ((nsS sc V es).elim none fun is=>some (i::is)) none
def nmS (sc:Scope)(V:Vw):List Str→Option (List Nat)
 |[]=>some []
 |x::es=>(lkV V x).elim none fun i=>cond (okN sc x) ((nmS sc V es).elim none fun is=>some (i::is)) none
def tgN (sc:Scope)(V:Vw):N1→Option Tg
 |.name x _=>(lkV V x).elim none fun i=>cond (okN sc x) (some (.one i)) none
 |.tup es _ _=>(nsS sc V es).elim none fun is=>some (.many is)
 |_=>none
def tgS (sc:Scope)(V:Vw)(t:PySem.Expr):Option Tg:=tgN sc V (vx t)
def aC:List (Nat×Nat×Vw)→Nat→Nat→Option Vw
 |[],_,_=>none
 |w::r,a,b=>cond (Nat.beq w.1 a&&Nat.beq w.2.1 b) (some w.2.2) (aC r a b)
def fr (scope:Scope)(l:List Str):Bool:=l.all fun x=>!decide ((x,NameKind.free)∈scope.names)
def zpN:N1→Option (PySem.Expr×PySem.Expr)
 |.call f as ks _=>cond (ks.isEmpty&&GJ (ofString "zip") f) (match as with
  |[a,b]=>some (a,b)
  |_=>none) none
 |_=>none
def zpO (e:PySem.Expr):Option (PySem.Expr×PySem.Expr):=zpN (vx e)
def Qbh (K:CC)(sc:Scope)(V:Vw)(elt:PySem.Expr)(g:Comprehension)(scope:Scope)(V':Vw)(t:Tg):Option EX:=
 (zpO g.iter).elim
  (cond (nSl g.iter) (some (QJ (cI K sc V g.iter) t (g.ifs.map (K.T (QI scope sc) V')) (K.E (QI scope sc) V' elt))) none)
  fun ab=>cond (gB sc (ofString "zip")&&QB ab.1&&QB ab.2) (some (QJ (OK (K.E sc V ab.1) (K.E sc V ab.2)) t (g.ifs.map (K.T (QI scope sc) V')) (K.E (QI scope sc) V' elt))) none
def Qbo (K:CC)(sc:Scope)(V:Vw)(elt:PySem.Expr)(g:Comprehension)(scope:Scope)(V':Vw)(t:Tg):Option EX:=
 cond (decide (Gb sc scope V V' (QX t))&&fr scope (YE g.target)&&decide (g.is_async=0)) (Qbh K sc V elt g scope V' t) none
def Qbv (K:CC)(sc:Scope)(V:Vw)(elt:PySem.Expr)(g:Comprehension)(scope:Scope)(V':Vw):Option EX:=(tgS (QI scope sc) V' g.target).elim none (Qbo K sc V elt g scope V')
def cC1 (o:List (Nat×Nat×Vw))(K:CC)(sc:Scope)(V:Vw)(elt:PySem.Expr)(g:Comprehension)(scope:Scope)(p:Pos):Option EX:=(aC o p.line p.col).elim none (Qbv K sc V elt g scope)
def QaI (K:CC)(sc:Scope)(V:Vw)(elt:PySem.Expr)(g g2:Comprehension)(scope:Scope)(V':Vw)(t t2:Tg):Option EX:=
 cond (decide (Gb sc scope V V' (QX t++QX t2))&&fr scope (YE g.target++YE g2.target)&&(decide (g.is_async=0)&&decide (g2.is_async=0))&&(g.ifs.isEmpty&&g2.ifs.isEmpty)&&(decide (∀i∈QX t2,i∉QX t))&&(nSl g.iter&&nSl g2.iter))
  (some (He (cI K sc V g.iter) t (cI K (QI scope sc) V' g2.iter) t2 (K.E (QI scope sc) V' elt))) none
def QbL (K:CC)(sc:Scope)(V:Vw)(elt:PySem.Expr)(g g2:Comprehension)(scope:Scope)(V':Vw)(t:Tg):Option EX:=(tgS (QI scope sc) V' g2.target).elim none (QaI K sc V elt g g2 scope V' t)
def QaQ (K:CC)(sc:Scope)(V:Vw)(elt:PySem.Expr)(g g2:Comprehension)(scope:Scope)(V':Vw):Option EX:=(tgS (QI scope sc) V' g.target).elim none (QbL K sc V elt g g2 scope V')
def cC2 (o:List (Nat×Nat×Vw))(K:CC)(sc:Scope)(V:Vw)(elt:PySem.Expr)(g g2:Comprehension)(scope:Scope)(p:Pos):Option EX:=(aC o p.line p.col).elim none (QaQ K sc V elt g g2 scope)
def cCm (o:List (Nat×Nat×Vw))(K:CC)(sc:Scope)(V:Vw)(elt:PySem.Expr)(gs:List Comprehension)(scope:Scope)(p:Pos):Option EX:=match gs with
 |[g]=>cC1 o K sc V elt g scope p
 |[g,g2]=>cC2 o K sc V elt g g2 scope p
 |_=>none
def cD (K:CC)(sc:Scope)(V:Vw)(ks:List (Option PySem.Expr))(vs:List PySem.Expr):EX:=match ks with
 |[]=>cond vs.isEmpty Zc QR
 |[k]=>k.elim QR fun k=>(match vs with
  |[v]=>I5 (K.E sc V k) (K.E sc V v)
  |_=>QR)
 |_=>QR
def cBo (op:BoolOp)(es:List EX):EX:=match op with
 |.And=>WQ es
 |.Or=>eOr es
def cBt (op:BoolOp)(es:List TX):TX:=match op with
 |.And=>Yk es
 |.Or=>tOr es
def cU (op:UnaryOp)(a:EX):EX:=match op with
 |.Not=>T8 a
 |.USub=>Tc a
 |_=>QR
def cCp (K:CC)(sc:Scope)(V:Vw)(l:PySem.Expr)(ops:List CmpOp)(rs:List PySem.Expr):EX:=match ops with
 |[op]=>(match rs with
  |[r]=>cond (behindInMarks op r) QR (RW op (K.E sc V l) (K.E sc V r))
  |_=>QR)
 |_=>QR
def ovN:N1→Option PySem.Expr
 |.sub v s _=>cond (GJ (ofString "_law_over") v) (some s) none
 |_=>none
def ovO (r:PySem.Expr):Option PySem.Expr:=ovN (vx r)
def cCt (K:CC)(sc:Scope)(V:Vw)(l:PySem.Expr)(ops:List CmpOp)(rs:List PySem.Expr):TX:=match ops with
 |[op]=>(match rs with
  |[r]=>(ovO r).elim (cond (behindInMarks op r) (tE QR) (tE (RW op (K.E sc V l) (K.E sc V r)))) fun s=>cond (decide (op=.NotIn)&&gB sc (ofString "_law_over")&&nSl s) (tE (Y5 (K.E sc V l) (K.E sc V s))) (tE QR)
  |_=>tE QR)
 |_=>tE QR
def stE (o:List (Nat×Nat×Vw))(K:CC)(sc:Scope)(V:Vw):N1→EX
 |.con v _ _=>cK v
 |.name x _=>cN sc V x
 |.tup es _ _=>cond (es.all QB) (QK (es.map (K.E sc V))) QR
 |.lst es _=>cond (es.all QB) (QE (es.map (K.E sc V))) QR
 |.dct ks vs _=>cD K sc V ks vs
 |.bop op es _=>cBo op (es.map (K.E sc V))
 |.uop op x _=>cU op (K.E sc V x)
 |.bin l op r _=>Ah op (K.E sc V l) (K.E sc V r)
 |.cpr l ops rs _=>cCp K sc V l ops rs
 |.ife t a b _=>eIf (K.T sc V t) (K.E sc V a) (K.E sc V b)
 |.att v x _=>cond (abB v) ((GA Q6 64 x).elim QR fun k=>Qk (K.E sc V v) k) QR
 |.sub v s _=>Cy K sc V v s
 |.call f as ks p=>cond ks.isEmpty (KG K sc V as p (vx f)) QR
 |.lc elt gs scope p=>(cCm o K sc V elt gs scope p).elim QR id
 |.oth=>QR
def stT (K:CC)(sc:Scope)(V:Vw)(e:PySem.Expr):N1→TX
 |.uop op x _=>cond (decide (op=.Not)) (ZO (K.T sc V x)) (tE QR)
 |.bop op es _=>cBt op (es.map (K.T sc V))
 |.cpr l ops rs _=>cCt K sc V l ops rs
 |_=>cond (plT e) (tE (K.E sc V e)) (tE QR)
def cc (o:List (Nat×Nat×Vw)):Nat→CC
 |0=>⟨fun _ _ _=>QR,fun _ _ _=>tE QR⟩
 |n+1=>⟨fun sc V e=>stE o (cc o n) sc V (vx e),fun sc V e=>stT (cc o n) sc V e (vx e)⟩
end
section
variable {c:Cx} {C:CT} {d:Nat} {sc scope:Scope} {V V':Vw} {K:CC}
theorem Pn (O:Ok c C d K)(T:Tp c)(G:Kf c){e:PySem.Expr}:WE c C d sc V e (cI K sc V e):=
 Jn (Q:=fun n e=>WE c C d sc V e (QO (K.E sc V e))→WE c C d sc V e (cIn K sc V e n)) (fun n X=>by
  refine q1 n ?_;intro Q;cases n with
  |call f as ks p=>
   show WE c C d sc V (.Call f as ks p) (cond (ks.isEmpty&&GJ (ofString "range") f&&(gB sc (ofString "range")&&as.all QB)) (cIr K sc V (.Call f as ks p) as) (QO (K.E sc V (.Call f as ks p))))
   cases q:(ks.isEmpty&&GJ (ofString "range") f&&(gB sc (ofString "range")&&as.all QB))with
   |false=>exact X
   |true=>
    refine q1 as ?_;intro Q;have X:WE c C d sc V (.Call f as ks p) (QO (K.E sc V (.Call f as ks p))):=X
    obtain⟨q1,q2⟩:=Bool.and_eq_true_iff.mp q
    obtain⟨q1,q3⟩:=Bool.and_eq_true_iff.mp q1
    obtain⟨g,pl⟩:=Bool.and_eq_true_iff.mp q2
    clear q q2
    dsimp only[Q];rw[List.isEmpty_iff.mp q1]at X ⊢
    revert X
    clear X;refine Iu (P:=fun f=>WE c C d sc V (.Call f as [] p) (QO (K.E sc V (.Call f as [] p)))→WE c C d sc V (.Call f as [] p) (cIr K sc V (.Call f as [] p) as)) q3 fun pn X=>?_
    have b:=R6 T (DR g)
    cases as with
    |nil=>exact X
    |cons a as=>
     cases as with
     |nil=>exact PK G.toGd b (O.E sc V a) (LU pl)
     |cons a2 as=>
      cases as with
      |nil=>exact LH G.toGd b (O.E sc V a) (O.E sc V a2) (DE pl).1 (DE pl).2
      |cons=>exact X
  |_=>exact X) (GU (O.E sc V e))
theorem To:∀{es:List PySem.Expr} {is:List Nat},nsS sc V es=some is→Z5 sc V es is:=by
 intro es
 induction es with
 |nil=>intro is h;cases h;exact .nil
 |cons e es ih=>
  intro is h
  obtain⟨x,a,h⟩:=eN h
  obtain⟨i,b,h⟩:=eN h
  obtain⟨k,h⟩:=cNn h
  obtain⟨js,j,h⟩:=eN h
  cases h
  exact K9 (P:=fun e=>Z5 sc V (e::es) (i::js)) a fun p=>.cons (W6 b) (BY k) (ih j)
theorem Vv:∀{es:List Str} {is:List Nat},nmS sc V es=some is→J6 sc V es is:=by
 intro es
 induction es with
 |nil=>intro is h;cases h;exact .nil
 |cons x es ih=>
  intro is h
  obtain⟨i,b,h⟩:=eN h
  obtain⟨k,h⟩:=cNn h
  obtain⟨js,j,h⟩:=eN h
  cases h
  exact .cons (W6 b) (BY k) (ih j)
theorem UQ {t:PySem.Expr}{g:Tg}:tgS sc V t=some g→Y7 c sc V t g∧Jk t:=
 Jn (Q:=fun n t=>tgN sc V n=some g→Y7 c sc V t g∧Jk t) fun n h=>by
  refine q2 g n ?_;intro Q;cases n with
  |name x p=>
   obtain⟨i,b,h⟩:=eN h
   obtain⟨k,h⟩:=cNn h
   cases h
   exact⟨I2 (W6 b) (BY k),.inl ⟨_,_,rfl⟩⟩
  |tup es k p=>
   obtain⟨js,j,h⟩:=eN h
   cases h
   exact⟨DL (To j),.inr ⟨_,_,_,rfl⟩⟩
  |_=>exact fo h
theorem F0 {l:List Str}(h:fr scope l=true):∀x∈l,(x,NameKind.free)∉scope.names:=fun x hx q=>by
 have:=List.all_eq_true.mp h x hx
 rw[decide_eq_true q]at this
 exact ff this
theorem XM {P:PySem.Expr→Prop}{e:PySem.Expr}{ab:PySem.Expr×PySem.Expr}(h:zpO e=some ab)(k:∀pn pc,P (.Call (.Name (ofString "zip") pn) [ab.1,ab.2] [] pc)):P e:=
 Jn (Q:=fun n e=>zpN n=some ab→P e) (fun n h=>by
  cases n with
  |call f as ks p=>
   show P (.Call f as ks p)
   obtain⟨q,h⟩:=cNn h
   obtain⟨q1,q2⟩:=Bool.and_eq_true_iff.mp q
   rw[List.isEmpty_iff.mp q1]
   cases as with
   |nil=>exact fo h
   |cons a as=>
    cases as with
    |nil=>exact fo h
    |cons b as=>
     cases as with
     |nil=>have h:=Option.some.inj h;subst h;exact Iu (P:=fun f=>P (.Call f [a,b] [] p)) q2 fun pn=>k pn p
     |cons=>exact fo h
  |_=>exact fo h) h
theorem eZ {α β:Type}{o:Option α}{x:Option β}{f:α→Option β}{r:β}{G:Prop}(h:o.elim x f=some r)(a:o=none→x=some r→G)(b:∀v,o=some v→f v=some r→G):G:=by
 cases o with
 |none=>exact a rfl h
 |some v=>exact b v rfl h
theorem Rq {a b c:Bool}{G:Prop}(h:(a&&b&&c)=true)(k:a=true→b=true→c=true→G):G:=k (Bool.and_eq_true_iff.mp (Bool.and_eq_true_iff.mp h).1).1 (Bool.and_eq_true_iff.mp (Bool.and_eq_true_iff.mp h).1).2 (Bool.and_eq_true_iff.mp h).2
theorem Vg {o:List (Nat×Nat×Vw)}(O:Ok c C d K)(T:Tp c)(G:Kf c){elt:PySem.Expr}{g:Comprehension}{p:Pos}{f:EX}(h:cC1 o K sc V elt g scope p=some f):g.is_async=0∧ZI c C d sc scope V (.ListComp elt [⟨g.target,g.iter,g.ifs,0⟩] scope p) g.iter f:=by
 refine q1 f ?_;intro Q;obtain⟨V',a,h⟩:=eN h
 obtain⟨t,b,h⟩:=eN h
 obtain⟨q,h⟩:=cNn h
 refine Rq q fun q1 q2 q3=>?_
 have K1:=G9 (of_decide_eq_true q1)
 have TG:=UQ (c:=c) b
 refine⟨of_decide_eq_true q3,?_⟩
 refine eZ h (fun z h=>?_) fun ab z h=>?_
 ·obtain⟨k,h⟩:=cNn h
  cases h
  exact OD K1 (F0 q2) (Pn O T G) TG.1 TG.2 (O.TL _) (O.E _ _ _) (Ub k)
 ·obtain⟨k,h⟩:=cNn h
  refine Rq k fun k1 k2 k3=>?_
  cases h
  exact XM (P:=fun e=>ZI c C d sc scope V (.ListComp elt [⟨g.target,e,g.ifs,0⟩] scope p) e _) z fun pn pc=>Hq K1 (F0 q2) G.toGd (Ci T (DR k1)) (O.E sc V ab.1) (O.E sc V ab.2) k2 k3 (fun Z Z Z=>rfl)
theorem VL {o:List (Nat×Nat×Vw)}(O:Ok c C d K)(T:Tp c)(G:Kf c){elt:PySem.Expr}{g g2:Comprehension}{p:Pos}{f:EX}(h:cC2 o K sc V elt g g2 scope p=some f):(g.is_async=0∧g2.is_async=0)∧(g.ifs=[]∧g2.ifs=[])∧ZI c C d sc scope V (.ListComp elt [⟨g.target,g.iter,[],0⟩,⟨g2.target,g2.iter,[],0⟩] scope p) g.iter f:=by
 refine q1 f ?_;intro Q;obtain⟨V',a,h⟩:=eN h
 obtain⟨t,b,h⟩:=eN h
 obtain⟨t2,b2,h⟩:=eN h
 obtain⟨q,h⟩:=cNn h
 cases h
 refine Rq q fun q q5 q6=>?_
 refine Rq q fun q q3 q4=>?_
 obtain⟨q1,q2⟩:=Bool.and_eq_true_iff.mp q
 obtain⟨i1,i2⟩:=Bool.and_eq_true_iff.mp q3
 obtain⟨e1,e2⟩:=Bool.and_eq_true_iff.mp q4
 obtain⟨n1,n2⟩:=Bool.and_eq_true_iff.mp q6
 have A:=UQ (c:=c) b
 have B:=UQ (c:=c) b2
 exact⟨⟨of_decide_eq_true i1,of_decide_eq_true i2⟩,⟨List.isEmpty_iff.mp e1,List.isEmpty_iff.mp e2⟩,Hj (G9 (of_decide_eq_true q1)) (F0 q2) (of_decide_eq_true q5) (Pn O T G) A.1 A.2 (Pn O T G) B.1 B.2 (Ub n2) (O.E _ _ _) (Ub n1)⟩
theorem KC {o:List (Nat×Nat×Vw)}(O:Ok c C d K)(T:Tp c)(G:Kf c){elt:PySem.Expr}{gs:List Comprehension}{p:Pos}{f:EX}(h:cCm o K sc V elt gs scope p=some f):∃t it ifs r,gs=⟨t,it,ifs,0⟩::r∧ZI c C d sc scope V (.ListComp elt (⟨t,it,ifs,0⟩::r) scope p) it f:=by
 refine q1 gs ?_;intro Q;cases gs with
 |nil=>exact fo h
 |cons g gs=>
  refine q2 g gs ?_;intro Q;obtain⟨t,it,ifs,a⟩:=g
  cases gs with
  |nil=>obtain⟨e,X⟩:=Vg O T G h;clear h;have e:a=0:=e;subst e;exact⟨_,_,_,_,rfl,X⟩
  |cons g2 gs=>
   refine q4 ifs a g2 gs ?_;intro Q;obtain⟨t2,it2,ifs2,a2⟩:=g2
   cases gs with
   |nil=>
    refine q4 ifs a ifs2 a2 ?_;intro Q;obtain⟨⟨e,e2⟩,⟨j,j2⟩,X⟩:=VL O T G h
    clear h;have e:a=0:=e
    have e2:a2=0:=e2
    have j:ifs=[]:=j
    clear j;have j2:ifs2=[]:=j2
    clear j2;subst e e2 j j2
    exact⟨_,_,_,_,rfl,X⟩
   |cons=>exact fo h
theorem XR {o:List (Nat×Nat×Vw)}(O:Ok c C d K)(T:Tp c)(G:Kf c){elt:PySem.Expr}{gs:List Comprehension}{p:Pos}:Snd c C d sc V (.ListComp elt gs scope p) ((cCm o K sc V elt gs scope p).elim QR id):=by
 cases q:cCm o K sc V elt gs scope p with
 |none=>exact Qw
 |some f=>
  obtain⟨t,it,ifs,r,e,X⟩:=KC O T G q
  clear q
  subst e
  exact BQ X
theorem EG (O:Ok c C d K)(G:Kf c){l:PySem.Expr}{ops:List CmpOp}{rs:List PySem.Expr}{p:Pos}:Snd c C d sc V (.Compare l ops rs p) (cCp K sc V l ops rs):=by
 cases ops with
 |nil=>exact Qw
 |cons op ops=>
  refine q2 rs ops ?_;intro Q;cases ops with
  |cons=>exact Qw
  |nil=>
   refine q1 rs ?_;intro Q;cases rs with
   |nil=>exact Qw
   |cons r rs=>
    refine q1 rs ?_;intro Q;cases rs with
    |cons=>exact Qw
    |nil=>
     show Snd c C d sc V _ (cond (behindInMarks op r) QR _)
     cases q:behindInMarks op r with
     |true=>exact Qw
     |false=>exact(H0 G.toKd (O.E sc V l) (O.E sc V r) q).1
theorem XX {P:PySem.Expr→Prop}{r s:PySem.Expr}(h:ovO r=some s)(k:∀p p2,P (.Subscript (.Name (ofString "_law_over") p) s p2)):P r:=
 Jn (Q:=fun n r=>ovN n=some s→P r) (fun n h=>by
  cases n with
  |sub v s2 p2=>
   obtain⟨q,h⟩:=cNn h
   have h:=Option.some.inj h
   subst h
   exact Iu (P:=fun v=>P (.Subscript v _ p2)) q fun p=>k p p2
  |_=>exact fo h) h
theorem EC (O:Ok c C d K)(G:Kf c)(T:Tp c){l:PySem.Expr}{ops:List CmpOp}{rs:List PySem.Expr}{p:Pos}:Jy c C d sc V (.Compare l ops rs p) (cCt K sc V l ops rs):=by
 cases ops with
 |nil=>exact YZ
 |cons op ops=>
  cases ops with
  |cons=>exact YZ
  |nil=>
   refine q1 rs ?_;intro Q;cases rs with
   |nil=>exact YZ
   |cons r rs=>
    refine q1 rs ?_;intro Q;cases rs with
    |cons=>exact YZ
    |nil=>
     show Jy c C d sc V _ ((ovO r).elim _ _)
     cases z:ovO r with
     |none=>
      show Jy c C d sc V _ (cond (behindInMarks op r) (tE QR) _)
      cases q:behindInMarks op r with
      |true=>exact YZ
      |false=>exact(H0 G.toKd (O.E sc V l) (O.E sc V r) q).2
     |some s=>
      show Jy c C d sc V _ (cond (decide (op=.NotIn)&&gB sc (ofString "_law_over")&&nSl s) _ _)
      cases q:(decide (op=.NotIn)&&gB sc (ofString "_law_over")&&nSl s)with
      |false=>exact YZ
      |true=>
       obtain⟨q,q3⟩:=Bool.and_eq_true_iff.mp q
       obtain⟨q1,q2⟩:=Bool.and_eq_true_iff.mp q
       rw[of_decide_eq_true q1]
       exact XX (P:=fun r=>Jy c C d sc V (.Compare l [.NotIn] [r] p) _) z fun p0 p1=>Ao G T (DR q2) (O.E sc V l) (O.E sc V s) (LT q3)
theorem VG {o:List (Nat×Nat×Vw)}(O:Ok c C d K)(G:Kf c)(T:Tp c)(HC:YP c d C){e:PySem.Expr}:Snd c C d sc V e (stE o K sc V (vx e)):=
 Jn (Q:=fun n e=>Snd c C d sc V e (stE o K sc V n)) fun n=>by
 refine q1 n ?_;intro Q;cases n with
 |con v k p=>exact AH
 |name x p=>exact C2 G T
 |tup es k p=>exact b1E (fun q=>Ww (O.L es) q) Qw
 |lst es p=>exact b1E (fun q=>J5 (O.L es) q) Qw
 |dct ks vs p=>
  cases ks with
  |nil=>
   refine q1 vs ?_;intro Q;cases vs with
   |nil=>exact Py
   |cons=>exact Qw
  |cons k ks=>
   refine q3 vs k ks ?_;intro Q;cases ks with
   |cons=>exact Qw
   |nil=>
    cases k with
    |none=>exact Qw
    |some k=>
     refine q1 vs ?_;intro Q;cases vs with
     |nil=>exact Qw
     |cons v vs=>
      refine q1 vs ?_;intro Q;cases vs with
      |cons=>exact Qw
      |nil=>exact Lf (O.E sc V k) (O.E sc V v)
 |bop op es p=>
  cases op with
  |And=>exact Ri (O.L es)
  |Or=>exact XW (O.L es)
 |uop op x p=>
  cases op with
  |Not=>exact Nu Cs (O.E sc V x)
  |USub=>exact Nu Xt (O.E sc V x)
  |_=>exact Qw
 |bin l op r p=>exact Ru (O.E sc V l) (O.E sc V r)
 |cpr l ops rs p=>exact EG O G
 |ife t a b p=>exact UC (O.T sc V t) (O.E sc V a) (O.E sc V b)
 |att v x p=>exact b1E (fun q=>oE (fun k h=>sAt G (Bp h).2 (O.E sc V v) (Kz q)) Qw) Qw
 |sub v s p=>exact SR O
 |call f as ks p=>exact b1E (fun q=>by show Snd c C d sc V (.Call f as ks p) _;rw[List.isEmpty_iff.mp q];exact FZ O G T HC) Qw
 |lc elt gs scope p=>exact XR O T G
 |_=>exact Qw
theorem VJ (O:Ok c C d K)(G:Kf c)(T:Tp c){e:PySem.Expr}:Jy c C d sc V e (stT K sc V e (vx e)):=by
 have X:Jy c C d sc V e (cond (plT e) (tE (K.E sc V e)) (tE QR)):=by
  cases q:plT e with
  |false=>exact YZ
  |true=>exact UZ (O.E sc V e) (Va q)
 exact Jn (Q:=fun n e=>Jy c C d sc V e (cond (plT e) (tE (K.E sc V e)) (tE QR))→Jy c C d sc V e (stT K sc V e n)) (fun n X=>by
  refine q1 n ?_;intro Q;cases n with
  |uop op x p=>
   clear X;cases op with
   |Not=>exact Ff (O.T sc V x)
   |_=>exact YZ
  |bop op es p=>
   clear X;cases op with
   |And=>exact Kr (O.TL es)
   |Or=>exact TA (O.TL es)
  |cpr l ops rs p=>exact EC O G T
  |_=>exact X) X
theorem AF {o:List (Nat×Nat×Vw)}(G:Kf c)(T:Tp c)(HC:YP c d C)(n:Nat):Ok c C d (cc o n):=by
 induction n with
 |zero=>exact⟨fun _ _ _=>Qw,fun _ _ _=>YZ⟩
 |succ n ih=>exact⟨fun _ _ _=>VG ih G T HC,fun _ _ _=>VJ ih G T⟩
end
end Mine.Tactic
namespace Mine.Tactic
section
variable {c:Cx} {C:CT} {d:Nat} {sc scope:Scope} {V V':Vw} {K:CC} {st:PySem.Stmt} {α:Type}
theorem b1S {b:Bool}{f:SX}(h:b=true→Ja c C d sc V st f):Ja c C d sc V st (cond b f Qq):=by
 cases b with
 |false=>exact Jf
 |true=>exact h rfl
theorem oS {o:Option α}{f:α→SX}(h:∀a,o=some a→Ja c C d sc V st (f a)):Ja c C d sc V st (o.elim Qq f):=by
 cases o with
 |none=>exact Jf
 |some a=>exact h a rfl
def blk (sc:Scope):ScopeKind:=if sc.kind.isAnnotationScope then .function else sc.kind
def swN (sc:Scope)(l:Nat)(e:PySem.Expr):Option Str:=match e with
 |.Name id pos=>if sc.names.lookup id==some .local&&pos.line==l then some id else none
 |_=>none
def QaX:PySem.Expr→Bool
 |.Starred ..=>true
 |_=>false
def swQ (sc:Scope)(ts vs:List PySem.Expr):Option (Option (List Str)):=
 if !(ts.length==2||ts.length==3)||vs.length !=ts.length||blk sc !=.function then some none
 else if vs.any QaX then some none
 else if(ts.filterMap (swN sc ((ts.head?.map (·.pos.line)).getD 0))).length !=ts.length||(ts.filterMap (swN sc ((ts.head?.map (·.pos.line)).getD 0))).eraseDups.length !=(ts.filterMap (swN sc ((ts.head?.map (·.pos.line)).getD 0))).length then some none
 else if vs.all (foldedForSure 8)then some none
 else if vs.all (constantsAlone 8)then none
 else some (some (ts.filterMap (swN sc ((ts.head?.map (·.pos.line)).getD 0))))
def swR (sc:Scope)(ts:List PySem.Expr):N1→Option (Option (List Str))
 |.tup vs _ _=>swQ sc ts vs
 |.oth=>none
 |_=>some none
def swP (sc:Scope)(ts:List PySem.Expr)(e:PySem.Expr):Option (Option (List Str)):=swR sc ts (vx e)
theorem swI {p:Prop} [Decidable p]{x y:Option (Option (List Str))}{r:Option (List Str)}{u v:Sem (Option (List Str))}(h:(if p then x else y)=some r)(a:x=some r→u=pure r)(b:y=some r→v=pure r):(if p then u else v)=pure r:=by
 by_cases q:p
 ·rw[if_pos q]at h ⊢;exact a h
 ·rw[if_neg q]at h ⊢;exact b h
theorem swn {r:Option (List Str)}(h:some none=some r):(pure none:Sem (Option (List Str)))=pure r:=by
 have h:=Option.some.inj h
 rw[h]
theorem X4 {ts:List PySem.Expr}{e:PySem.Expr}{k:Nat}{tp:Pos}{r:Option (List Str)}:swP sc ts e=some r→∀env,env.scope=sc→swappedStores [.Tuple ts k tp] e env=pure r:=
 Jn (Q:=fun n e=>swR sc ts n=some r→∀env:Env,env.scope=sc→swappedStores [.Tuple ts k tp] e env=pure r) fun n h=>by
  refine HE fun env=>?_
  refine q1 n ?_;intro Q;cases n with
  |tup vs k2 p2=>exact swI h swn fun h=>swI h swn fun h=>swI h swn fun h=>swI h swn fun h=>swI h (fun h=>fo h) fun h=>by have h:=Option.some.inj h;rw[←h];rfl
  |oth=>exact fo h
  |_=>exact swn h
def Vu (o:List (Nat×Nat×Vw))(K:CC)(sc:Scope)(V:Vw)(i:Nat)(e:PySem.Expr):N1→SX
 |.lc elt gs scope q=>(cCm o K sc V elt gs scope q).elim Qq fun f=>sSet i f
 |_=>cond (nCm e) (sSet i (K.E sc V e)) Qq
def C1 (K:CC)(sc:Scope)(V:Vw)(ts:List PySem.Expr)(e:PySem.Expr):SX:=(nsS sc V ts).elim Qq fun is=>cond (nCm e) ((swP sc ts e).elim Qq fun r=>
 r.elim (sSetT is (K.E sc V e)) fun ns=>cond (decide (nmS sc V ns=some is∧is.Nodup)) (sSetT is (K.E sc V e)) Qq) Qq
def cAs (o:List (Nat×Nat×Vw))(K:CC)(sc:Scope)(V:Vw)(e:PySem.Expr):N1→SX
 |.name x _=>(lkV V x).elim Qq fun i=>cond (okN sc x) (Vu o K sc V i e (vx e)) Qq
 |.tup ts _ _=>C1 K sc V ts e
 |.att v x _=>(GA Q6 64 x).elim Qq fun k=>cond (nCm e) (sAttr (K.E sc V v) k (K.E sc V e)) Qq
 |.sub v i _=>cond (nCm e) (BE (K.E sc V v) (K.E sc V i) (K.E sc V e)) Qq
 |_=>Qq
def stS (o:List (Nat×Nat×Vw))(cv:Nat)(K:CC)(sc:Scope)(V:Vw)(B:PySem.Stmt→SX)(st:PySem.Stmt):SX:=match st with
 |.Expr e p=>cond (Nat.testBit cv p.line&&nCm e) (sExp (K.E sc V e)) Qq
 |.Return v p=>cond (Nat.testBit cv p.line) (v.elim Qq fun e=>QA (K.E sc V e)) Qq
 |.Continue p=>cond (Nat.testBit cv p.line) DF Qq
 |.Assign ts e p=>cond (Nat.testBit cv p.line) (match ts with
  |[t]=>cAs o K sc V e (vx t)
  |_=>Qq) Qq
 |.If t a b p=>cond (Nat.testBit cv p.line) (sIf (K.T sc V t) (a.map B) (b.map B)) Qq
 |.While t a b p=>cond (Nat.testBit cv p.line&&b.isEmpty) (ZA (K.T sc V t) (a.map B)) Qq
 |.For t it a b p=>cond (Nat.testBit cv p.line&&(b.isEmpty&&nSl it)) ((tgS sc V t).elim Qq fun g=>YK g (cI K sc V it) (a.map B)) Qq
 |_=>Qq
def sS (o:List (Nat×Nat×Vw))(cv:Nat)(K:CC)(sc:Scope)(V:Vw):Nat→PySem.Stmt→SX
 |0,_=>Qq
 |n+1,st=>stS o cv K sc V (sS o cv K sc V n) st
theorem UU {B:PySem.Stmt→SX}(h:∀st,Ja c C d sc V st (B st))(l:List PySem.Stmt):WP c C d sc V l (QN (l.map B)):=by
 induction l with
 |nil=>exact Jh
 |cons s l ih=>exact QV (h s) ih
section
variable {o:List (Nat×Nat×Vw)} {cv:Nat}
theorem SI (O:Ok c C d K)(G:Kf c)(T:Tp c){x:Str}{i:Nat}{np p:Pos}{e:PySem.Expr}(h:lkV V x=some i)(k:okN sc x=true):Ja c C d sc V (.Assign [.Name x np] e p) (Vu o K sc V i e (vx e)):=
 Jn (Q:=fun n e=>Ja c C d sc V (.Assign [.Name x np] e p) (cond (nCm e) (sSet i (K.E sc V e)) Qq)→Ja c C d sc V (.Assign [.Name x np] e p) (Vu o K sc V i e n)) (fun n X=>by
  refine q1 n ?_;intro Q;cases n with
  |lc elt gs scope q=>
   clear X
   refine oS fun f z=>?_
   show Ja c C d sc V (.Assign [.Name x np] (.ListComp elt gs scope q) p) _
   obtain⟨t,it,ifs,r,e,Y⟩:=KC O T G z
   clear z
   subst e
   have W:=swC (sc:=sc) (elt:=elt) (gens:=⟨t,it,ifs,0⟩::r) (scope:=scope) (pos:=q) (x:=x) (p:=np) (line:=p.line) rfl
   revert W
   generalize ((if sc.kind.isAnnotationScope then ScopeKind.function else sc.kind)==.function&&sc.names.lookup x==some .local&&np.line==q.line&&!(scope.names.any fun z=>z.1==x&&(z.2==.local||z.2==.cell)))=b
   intro W
   cases b with
   |false=>exact UA (W6 h) (BY k) (BQ Y) W
   |true=>exact Fv (W6 h) (BY k) Y W
  |_=>exact X) (b1S fun q=>UA (W6 h) (BY k) (O.E sc V e) (UK q))
theorem T9 (O:Ok c C d K){ts:List PySem.Expr}{k:Nat}{tp p:Pos}{e:PySem.Expr}:Ja c C d sc V (.Assign [.Tuple ts k tp] e p) (C1 K sc V ts e):=by
 refine oS fun is h=>b1S fun q=>oS fun r z=>?_
 refine q1 r ?_;intro Q;have W:∀env,env.scope=sc→swapsWithSole [.Tuple ts k tp] e p.line env=pure false∧swappedStores [.Tuple ts k tp] e env=pure r:=fun env a=>⟨UK (t:=some (.Tuple ts k tp)) (l:=p.line) q env a,X4 z env a⟩
 clear z;cases r with
 |none=>exact Po (To h) (O.E sc V e) W
 |some ns=>exact b1S fun w=>M6 (Vv (of_decide_eq_true w).1) (of_decide_eq_true w).2 (O.E sc V e) W
theorem EK (O:Ok c C d K)(G:Kf c)(T:Tp c){t e:PySem.Expr}{p:Pos}:Ja c C d sc V (.Assign [t] e p) (cAs o K sc V e (vx t)):=
 Jn (Q:=fun n t=>Ja c C d sc V (.Assign [t] e p) (cAs o K sc V e n)) fun n=>by
  refine q1 n ?_;intro Q;cases n with
  |name x np=>exact oS fun i h=>b1S fun k=>SI O G T h k
  |tup ts k tp=>exact T9 O
  |att v x ap=>exact oS fun k h=>b1S fun q=>Io G.toKd (Bp h).2 (O.E sc V v) (O.E sc V e) (UK q)
  |sub v i sp=>exact b1S fun q=>Eb (O.E sc V v) (O.E sc V i) (O.E sc V e) (UK q)
  |_=>exact Jf
theorem EO (O:Ok c C d K)(G:Kf c)(T:Tp c){B:PySem.Stmt→SX}(h:∀st,Ja c C d sc V st (B st)):Ja c C d sc V st (stS o cv K sc V B st):=by
 refine q1 st ?_;intro Q;cases st with
 |Expr e p=>exact b1S fun q=>Mh (O.E sc V e) (UK (Bool.and_eq_true_iff.mp q).2)
 |Return v p=>exact b1S fun q=>oS fun e h=>by rw[h];exact BX (O.E sc V e)
 |Continue p=>exact b1S fun q=>Re
 |Assign ts e p=>
  refine b1S fun q=>?_
  cases ts with
  |nil=>exact Jf
  |cons t ts=>
   refine q1 ts ?_;intro Q;cases ts with
   |nil=>exact EK O G T
   |cons=>exact Jf
 |If t a b p=>exact b1S fun q=>Pd (O.T sc V t) (UU h a) (UU h b)
 |While t a b p=>exact b1S fun q=>by rw[List.isEmpty_iff.mp (Bool.and_eq_true_iff.mp q).2];exact UI (O.T sc V t) (UU h a)
 |For t it a b p=>
  refine b1S fun q=>?_
  obtain⟨q1,q2⟩:=Bool.and_eq_true_iff.mp q
  obtain⟨q2,q3⟩:=Bool.and_eq_true_iff.mp q2
  rw[List.isEmpty_iff.mp q2]
  exact oS fun g z=>Ke (Y7.wf (UQ z).1) (UQ (c:=c) z).2 (Pn O T G) (UU h a) (Ub q3)
 |_=>exact Jf
theorem Aq (O:Ok c C d K)(G:Kf c)(T:Tp c)(n:Nat):∀st,Ja c C d sc V st (sS o cv K sc V n st):=by
 induction n with
 |zero=>exact fun st=>Jf
 |succ n ih=>exact fun st=>EO O G T ih
theorem Vo (G:Kf c)(T:Tp c)(HC:YP c d C){l:List PySem.Stmt}{b:List SX}(h:l.map (sS o cv (cc o 20) sc V 9)=b):WP c C d sc V l (QN b):=h▸UU (Aq (AF G T HC 20) G T 9) l
end
end
end Mine.Tactic
namespace Mine.Tactic
def cvL:Nat:=13472233419399884412001863106662701252941243391536349671185620498714477086007322432561131653898203337366631544583680146912075867570860439406522612424551575324772310376040515433760108775505661869726735968272420690593839764025337809517701030609313408206952292642684453113964714263552
def cmL:List (Nat×Nat×Vw):=[(68,24,[(5,ofString "part"),(4,ofString "bound")]),(195,15,[(4,ofString "row"),(5,ofString "case"),(3,ofString "cases")]),(196,11,[(6,ofString "row"),(0,ofString "kind")]),(199,23,[(1,ofString "part")]),(312,24,[(4,ofString "param"),(5,ofString "wanted")]),(349,12,[(7,ofString "at"),(2,ofString "some"),(4,ofString "wanted"),(5,ofString "rest")]),(414,15,[(4,ofString "name"),(2,ofString "told")]),(597,15,[(2,ofString "user"),(0,ofString "self"),(1,ofString "method")]),(622,16,[(4,ofString "user"),(0,ofString "self")]),(647,20,[(2,ofString "row"),(3,ofString "param")]),(667,14,[(7,ofString "row")]),(668,15,[(8,ofString "name"),(3,ofString "own")]),(727,52,[(2,ofString "part"),(0,ofString "self")]),(792,15,[(2,ofString "method"),(1,ofString "world")]),(828,59,[(6,ofString "method"),(7,ofString "told")]),(830,28,[(8,ofString "method"),(9,ofString "told")]),(834,15,[(4,ofString "one"),(0,ofString "self"),(2,ofString "kind")]),(845,15,[(5,ofString "method"),(0,ofString "self"),(2,ofString "kind"),(4,ofString "found")]),(849,33,[(5,ofString "method")]),(853,31,[(6,ofString "method")]),(868,11,[(2,ofString "spot"),(1,ofString "names"),(0,ofString "jar")]),(870,37,[(2,ofString "word")]),(872,37,[(2,ofString "at"),(0,ofString "wide"),(1,ofString "row")]),(876,11,[(2,ofString "at"),(0,ofString "one"),(1,ofString "other")]),(878,11,[(8,ofString "at"),(0,ofString "methods"),(1,ofString "name")]),(879,11,[(9,ofString "at"),(0,ofString "methods"),(2,ofString "row")]),(882,17,[(10,ofString "one"),(5,ofString "at"),(0,ofString "methods")]),(883,11,[(11,ofString "one"),(0,ofString "methods"),(2,ofString "row")]),(887,33,[(13,ofString "one"),(12,ofString "at"),(0,ofString "methods")]),(887,11,[(12,ofString "at"),(3,ofString "some"),(0,ofString "methods")]),(916,17,[(23,ofString "row"),(6,ofString "methods")]),(916,16,[(22,ofString "rows"),(6,ofString "methods")]),(920,40,[(24,ofString "row"),(6,ofString "methods")]),(923,42,[(25,ofString "user"),(9,ofString "worlds")])]
noncomputable abbrev GL:Vw:=[(0,ofString "kinds"),(1,ofString "rest")]
noncomputable abbrev GS:Vw:=[(0,ofString "kind")]
noncomputable abbrev B3:Vw:=[(0,ofString "self"),(1,ofString "one"),(2,ofString "other"),(3,ofString "above")]
noncomputable abbrev BF:Vw:=[(0,ofString "self"),(1,ofString "kind")]
noncomputable abbrev IV:Vw:=[(0,ofString "self"),(1,ofString "user"),(2,ofString "name"),(3,ofString "kind"),(4,ofString "rows")]
noncomputable abbrev U9:Vw:=[(0,ofString "self"),(1,ofString "method"),(2,ofString "found"),(3,ofString "user")]
noncomputable abbrev WG:Vw:=[(0,ofString "self"),(1,ofString "kind")]
noncomputable abbrev Gi:Vw:=[(0,ofString "self"),(1,ofString "method"),(2,ofString "kinds"),(3,ofString "elder")]
noncomputable abbrev Z7:Vw:=[(0,ofString "self"),(1,ofString "name"),(2,ofString "kind"),(3,ofString "world")]
noncomputable abbrev II:Vw:=[(0,ofString "wide"),(1,ofString "row")]
noncomputable abbrev NT:Vw:=[(0,ofString "kind"),(1,ofString "word")]
noncomputable abbrev Lj:Vw:=[(0,ofString "kind")]
noncomputable abbrev Z0:Vw:=[(0,ofString "self"),(1,ofString "sides"),(2,ofString "name"),(3,ofString "side")]
noncomputable abbrev Bo:Vw:=[(0,ofString "self"),(1,ofString "kind"),(2,ofString "told"),(3,ofString "turn")]
noncomputable abbrev Us:Vw:=[(0,ofString "self"),(1,ofString "user"),(2,ofString "method"),(3,ofString "name"),(4,ofString "kind"),(5,ofString "world")]
noncomputable abbrev Dg:Vw:=[(0,ofString "self"),(1,ofString "name"),(2,ofString "params"),(3,ofString "above"),(4,ofString "is_abstract"),(5,ofString "is_mutable"),(6,ofString "fields")]
noncomputable abbrev MO:Vw:=[(0,ofString "self"),(1,ofString "number"),(2,ofString "table"),(3,ofString "sig"),(4,ofString "names"),(5,ofString "has_rest"),(6,ofString "code"),(7,ofString "tree"),(8,ofString "world_from"),(9,ofString "world_to")]
noncomputable abbrev Ix:Vw:=[(0,ofString "self"),(1,ofString "world")]
noncomputable abbrev WU:Vw:=[(0,ofString "self"),(1,ofString "method"),(2,ofString "kind"),(3,ofString "others"),(4,ofString "other")]
noncomputable abbrev DN:Vw:=[(0,ofString "one"),(1,ofString "other")]
noncomputable abbrev MQ:Vw:=[(0,ofString "kind"),(1,ofString "table"),(2,ofString "inner"),(3,ofString "bounds"),(4,ofString "parts")]
noncomputable abbrev MY:Vw:=[(0,ofString "self"),(1,ofString "kinds"),(2,ofString "fuel")]
noncomputable abbrev IJ:Vw:=[(0,ofString "one"),(1,ofString "other"),(2,ofString "some"),(3,ofString "tail"),(4,ofString "wanted"),(5,ofString "rest"),(6,ofString "goals")]
noncomputable abbrev UV:Vw:=[(0,ofString "self"),(1,ofString "one"),(2,ofString "other"),(3,ofString "told"),(4,ofString "word")]
noncomputable abbrev Bd:Vw:=[(0,ofString "self"),(1,ofString "method")]
noncomputable abbrev No:Vw:=[(0,ofString "self"),(1,ofString "params")]
noncomputable abbrev Nw:Vw:=[(0,ofString "self"),(1,ofString "world")]
noncomputable abbrev MK:Vw:=[(0,ofString "self"),(1,ofString "kinds")]
noncomputable abbrev ZB:Vw:=[(0,ofString "self"),(1,ofString "name"),(2,ofString "kind"),(3,ofString "world"),(4,ofString "found")]
noncomputable abbrev IT:Vw:=[(0,ofString "methods"),(1,ofString "name"),(2,ofString "row"),(3,ofString "some"),(4,ofString "found"),(5,ofString "at"),(6,ofString "better"),(7,ofString "best")]
noncomputable abbrev Wt:Vw:=[(0,ofString "kind"),(1,ofString "found"),(2,ofString "left"),(3,ofString "here"),(4,ofString "bound")]
noncomputable abbrev WK:Vw:=[(5,ofString "part"),(4,ofString "bound")]
noncomputable abbrev ON:Vw:=[(0,ofString "self"),(1,ofString "goals"),(2,ofString "sides"),(3,ofString "waiting"),(4,ofString "left"),(5,ofString "here"),(6,ofString "found")]
noncomputable abbrev IR:Vw:=[(0,ofString "kinds"),(1,ofString "one"),(2,ofString "other"),(3,ofString "fuel"),(4,ofString "case"),(5,ofString "search")]
noncomputable abbrev Wl:Vw:=[(0,ofString "self"),(1,ofString "one"),(2,ofString "other"),(3,ofString "told"),(4,ofString "words"),(5,ofString "found"),(6,ofString "here"),(7,ofString "there")]
noncomputable abbrev MJ:Vw:=[(0,ofString "self"),(1,ofString "edges")]
noncomputable abbrev I8:Vw:=[(0,ofString "self")]
noncomputable abbrev IO:Vw:=[(0,ofString "self"),(1,ofString "world")]
noncomputable abbrev Mt:Vw:=[(0,ofString "self"),(1,ofString "name")]
noncomputable abbrev NX:Vw:=[(0,ofString "self"),(1,ofString "name"),(2,ofString "kind"),(3,ofString "world"),(4,ofString "told")]
noncomputable abbrev LE:Vw:=[(0,ofString "tables"),(1,ofString "methods"),(2,ofString "name"),(3,ofString "words"),(4,ofString "method"),(5,ofString "at")]
noncomputable abbrev Iq:Vw:=[(0,ofString "self"),(1,ofString "rows"),(2,ofString "many")]
noncomputable abbrev Js:Vw:=[(0,ofString "self"),(1,ofString "left"),(2,ofString "sides"),(3,ofString "waiting"),(4,ofString "ways"),(5,ofString "way")]
noncomputable abbrev D6:Vw:=[(0,ofString "kinds"),(1,ofString "one"),(2,ofString "other")]
noncomputable abbrev Z4:Vw:=[(0,ofString "self"),(1,ofString "one"),(2,ofString "other"),(3,ofString "told"),(4,ofString "some"),(5,ofString "others"),(6,ofString "tail"),(7,ofString "rest"),(8,ofString "found"),(9,ofString "here"),(10,ofString "at"),(11,ofString "left"),(12,ofString "right"),(13,ofString "kind"),(14,ofString "more")]
noncomputable abbrev NP:Vw:=[(0,ofString "self"),(1,ofString "user"),(2,ofString "world")]
noncomputable abbrev NU:Vw:=[(0,ofString "self"),(1,ofString "decl"),(2,ofString "above"),(3,ofString "own"),(4,ofString "wild"),(5,ofString "name"),(6,ofString "kind")]
noncomputable abbrev W1:Vw:=[(0,ofString "kinds"),(1,ofString "one"),(2,ofString "other")]
noncomputable abbrev ZJ:Vw:=[(0,ofString "self"),(1,ofString "method")]
noncomputable abbrev Nr:Vw:=[(0,ofString "script"),(1,ofString "cell"),(2,ofString "size")]
noncomputable abbrev CU:Vw:=[(0,ofString "script"),(1,ofString "jar"),(2,ofString "kinds"),(3,ofString "name"),(4,ofString "above"),(5,ofString "tables"),(6,ofString "methods"),(7,ofString "turn"),(8,ofString "edges"),(9,ofString "worlds"),(10,ofString "leans"),(11,ofString "due"),(12,ofString "user"),(13,ofString "rows"),(14,ofString "spot"),(15,ofString "row"),(16,ofString "ahead"),(17,ofString "method"),(18,ofString "hit"),(19,ofString "world"),(20,ofString "first"),(21,ofString "last")]
noncomputable abbrev Na:Vw:=[(0,ofString "self"),(1,ofString "kind")]
noncomputable abbrev MM:Vw:=[(0,ofString "self"),(1,ofString "goal"),(2,ofString "sides"),(3,ofString "word"),(4,ofString "one"),(5,ofString "other")]
noncomputable abbrev LD:Vw:=[(0,ofString "kinds"),(1,ofString "one"),(2,ofString "sig"),(3,ofString "fuel"),(4,ofString "sides"),(5,ofString "names"),(6,ofString "body"),(7,ofString "goals"),(8,ofString "name"),(9,ofString "fresh"),(10,ofString "side"),(11,ofString "found"),(12,ofString "table"),(13,ofString "told")]
noncomputable abbrev Wj:Vw:=[(0,ofString "self"),(1,ofString "one"),(2,ofString "other"),(3,ofString "told"),(4,ofString "here"),(5,ofString "there"),(6,ofString "above")]
noncomputable abbrev NR:Vw:=[(0,ofString "self"),(1,ofString "user")]
noncomputable abbrev IL:Vw:=[(0,ofString "self"),(1,ofString "name")]
noncomputable abbrev BA:Vw:=[(0,ofString "kinds"),(1,ofString "sigs"),(2,ofString "at"),(3,ofString "spot")]
noncomputable abbrev M3:Vw:=[(0,ofString "self"),(1,ofString "name"),(2,ofString "world")]
noncomputable abbrev Hn:Vw:=[(0,ofString "jar"),(1,ofString "many"),(2,ofString "found")]
noncomputable abbrev Da:Vw:=[(0,ofString "kind"),(1,ofString "word"),(2,ofString "found")]
noncomputable abbrev Nc:Vw:=[(0,ofString "self"),(1,ofString "one"),(2,ofString "other"),(3,ofString "sides"),(4,ofString "ways"),(5,ofString "upper"),(6,ofString "lower")]
noncomputable abbrev Me:Vw:=[(0,ofString "kind"),(1,ofString "found"),(2,ofString "left"),(3,ofString "here")]
noncomputable abbrev Mk:Vw:=[(0,ofString "kinds"),(1,ofString "one"),(2,ofString "other"),(3,ofString "meeting"),(4,ofString "kind"),(5,ofString "told")]
noncomputable abbrev Uv:Vw:=[(0,ofString "self"),(1,ofString "user"),(2,ofString "world"),(3,ofString "first"),(4,ofString "last")]
noncomputable abbrev Nt:Vw:=[(0,ofString "self"),(1,ofString "kind"),(2,ofString "decl")]
noncomputable abbrev LI:Vw:=[(0,ofString "kinds"),(1,ofString "sigs"),(2,ofString "held"),(3,ofString "at")]
noncomputable abbrev B6:Vw:=[(0,ofString "self"),(1,ofString "name"),(2,ofString "kind"),(3,ofString "world"),(4,ofString "found"),(5,ofString "method"),(6,ofString "told")]
noncomputable abbrev Gv:Vw:=[(0,ofString "jar"),(1,ofString "names")]
noncomputable abbrev MR:Vw:=[(0,ofString "kind"),(1,ofString "rows"),(2,ofString "part"),(3,ofString "cases")]
noncomputable abbrev Uj:Vw:=[(0,ofString "self"),(1,ofString "one"),(2,ofString "other"),(3,ofString "words")]
noncomputable abbrev My:Vw:=[(0,ofString "self"),(1,ofString "kinds"),(2,ofString "taken")]
noncomputable abbrev Dd:Vw:=[(0,ofString "self"),(1,ofString "tables")]
noncomputable abbrev MT:Vw:=[(0,ofString "self"),(1,ofString "user"),(2,ofString "world"),(3,ofString "first"),(4,ofString "last")]
noncomputable abbrev Mz:Vw:=[(0,ofString "self"),(1,ofString "kind"),(2,ofString "found")]
noncomputable abbrev I1:Vw:=[(0,ofString "self"),(1,ofString "name")]
noncomputable abbrev NZ:Vw:=[(0,ofString "self"),(1,ofString "name"),(2,ofString "kind"),(3,ofString "world"),(4,ofString "found"),(5,ofString "at")]
noncomputable abbrev Ds:Vw:=[(0,ofString "name"),(1,ofString "words")]
section
variable {c:Cx} {C:CT} {d:Nat} (G:Kf c) (T:Tp c) (HC:YP c d C)
include G T HC
theorem DW:WP c C d (fnS (Yr 10)) Wt (fnB (Yr 10)) (QN ND):=
 have N0:VN Wt:=by decide+kernel
 have N1:VN WK:=by decide+kernel
 ((QV (M6 (.cons m1 (by decide+kernel) (.cons m2 (by decide+kernel) .nil)) (by decide) (Ww (.cons (J5 .nil rfl) (.cons (J5 (.cons (Ww (.cons (sV N0 m0) (.cons (Ww .nil rfl) .nil)) rfl) .nil) rfl) .nil)) rfl) (HE fun Z=>⟨rfl,by kernel_rfl⟩)) (QV (UI (Q9 SV (sV N0 m2) (J5 .nil rfl) rfl) (QV (Po (.cons m3 (by decide+kernel) (.cons m4 (by decide+kernel) .nil)) (Te (sV N0 m2) (WM rfl (Nat.le_of_ble_eq_true rfl) (fun _ _=>rfl) rfl)) (HE fun Z=>⟨rfl,by kernel_rfl⟩)) (QV (Pd (Q9 Kb (N6 (fun Z Z=>rfl) (sV N0 m3) YS) y5 rfl) (QV Jf Jh) (QV (Pd (Q9 Kb (N6 (fun Z Z=>rfl) (sV N0 m3) YS) y4 rfl) (QV Jf (QV Jf Jh)) (QV (Mh (MG (sV N0 m2) (LX (V':=WK) (G9 (by decide+kernel)) (by decide+kernel) (GU (Rx (Xv G T HC f1 (by decide+kernel) (.cons (sV N0 m3) .nil) (by decide) rfl (List.cons_ne_nil _ _)))) (I2 m0 (by decide+kernel)) pNm .nil (Ww (.cons (sV N1 m0) (.cons (sV N1 m1) .nil)) rfl) (fun Z Z Z=>rfl)) rfl (WM rfl (Nat.le_of_ble_eq_true rfl) (fun _ _=>rfl) rfl)) (fun Z Z=>rfl)) Jh)) Jh)) Jh))) (QV (BX (sV N0 m1)) Jh))))
theorem Nq:WP c C d (fnS (Qz 28 2)) Js (fnB (Qz 28 2)) (QN Zj):=
 have N0:VN Js:=by decide+kernel
 ((QV (UI (Q9 SV (sV N0 m1) (J5 .nil rfl) rfl) (QV (Io G.toKd a5 (sV N0 m0) (Jc Xu (sAt G a5 (sV N0 m0) (fun _ _=>rfl)) YS) (fun Z Z=>rfl)) (QV (UA m4 (by decide+kernel) (UC (Q9 TP (sAt G a5 (sV N0 m0) (fun _ _=>rfl)) YS rfl) (Wi G HC a7 (sV N0 m0) (.cons (Te (sV N0 m1) (WM rfl (Nat.le_of_ble_eq_true rfl) (fun _ _=>rfl) rfl)) (.cons (sV N0 m2) .nil)) rfl (List.cons_ne_nil _ _) (WM rfl (Nat.le_of_ble_eq_true rfl) (fun _ _=>rfl) rfl)) (J5 .nil rfl)) (fun Z Z=>rfl)) (QV (Pd (Q9 Kb (sV N0 m4) (J5 .nil rfl) rfl) (QV (BX Ul) Jh) Jh) (QV (Ke (E9 m5 (by decide+kernel)) pNm (GU (Dn (sV N0 m4))) (QV Jf Jh) (fun Z Z Z=>rfl)) (QV (Mh (MG (sV N0 m1) (N6 (fun Z Z=>rfl) (sV N0 m4) YS) rfl (WM rfl (Nat.le_of_ble_eq_true rfl) (fun _ _=>rfl) rfl)) (fun Z Z=>rfl)) Jh)))))) (QV (BX (UC (UZ (Wi G HC a8 (sV N0 m0) (.cons (sV N0 m2) .nil) rfl (List.cons_ne_nil _ _) (WM rfl (Nat.le_of_ble_eq_true rfl) (fun _ _=>rfl) rfl)) (fun Z=>rfl)) (sV N0 m2) Ul)) Jh)))
theorem Lu:WP c C d (fnS (Yr 64)) Nr (fnB (Yr 64)) (QN Oz):=
 have N0:VN Nr:=by decide+kernel
 ((QV (UA m1 (by decide+kernel) (UC (Q9 VQ (Ez G (Kq T (by decide+kernel)) (sV N0 m0) rfl) YS rfl) (Mw G.toGd (Xa T (by decide+kernel)) Pg (KV G.toKd (sV N0 m0)) rfl) YS) (fun Z Z=>rfl)) (QV (UA m2 (by decide+kernel) (L2 G.toGd (Xj T (by decide+kernel)) Xw (sV N0 m1) (Nu Xt (sV N0 m1)) rfl rfl) (fun Z Z=>rfl)) (QV (BX (J5 (.cons (UC (Q9 TP (sV N0 m2) (Jc Xm YS YS) rfl) (sV N0 m2) YS) (.cons (Jc FR (Jc Xb (sV N0 m2) YS) YS) .nil)) rfl)) Jh))))
theorem OT:WP c C d (fnS (Qz 61 2)) ZJ (fnB (Qz 61 2)) (QN Bh):=
 have N0:VN ZJ:=by decide+kernel
 ((QV (Io G.toKd a51 (sV N0 m0) (Jc FR (sAt G a51 (sV N0 m0) (fun _ _=>rfl)) YS) (fun Z Z=>rfl)) (QV (Kw G.toKd m1 m1 (N0 _ m1) (N0 _ m1) a41 a24 (Ww (.cons (Ez G (Kq T (by decide+kernel)) (sAt G a50 (sV N0 m0) (fun _ _=>rfl)) rfl) (.cons (sAt G a51 (sV N0 m0) (fun _ _=>rfl)) .nil)) rfl) (HE fun Z=>⟨rfl,by kernel_rfl⟩)) (QV (Mh (D7 (sAt G a50 (sV N0 m0) (fun _ _=>rfl)) (sV N0 m1) rfl (WM rfl (Nat.le_of_ble_eq_true rfl) (fun _ _=>rfl) rfl)) (fun Z Z=>rfl)) (QV (Mh (Wi G HC a52 (Wi G HC a22 (sV N0 m0) (.cons (sAt G a22 (sV N0 m1) (fun _ _=>rfl)) .nil) rfl (List.cons_ne_nil _ _) (WM rfl (Nat.le_of_ble_eq_true rfl) (fun _ _=>rfl) rfl)) (.cons (sV N0 m1) (.cons (sAt G a4 (sV N0 m0) (fun _ _=>rfl)) .nil)) rfl (List.cons_ne_nil _ _) (WM rfl (Nat.le_of_ble_eq_true rfl) (fun _ _=>rfl) rfl)) (fun Z Z=>rfl)) (QV (BX (sV N0 m1)) Jh))))))
end
end Mine.Tactic
namespace Mine.Tactic
def Yn (f:Nat):Addr:=[41,55,67,72,155,183,235,240,245,252,270,277,284,291,313,325,330,337,375,383,390,396,409,423,437,442,449,484,491,498,545,559,566,573,578,599,606,613,620,627,632,688,693,726,731,745,752,759,792,814,821,828,856,863,870,884,891,896,917,924,931,938,945,950,955,962,967,972,991,998,1003,1008,1013,1018,1023,1030,1035].getD f 0
def Zm (c:Nat):Addr:=[207,345,534,581,635,708,795,838,899,975].getD c 0
def JW:Nat→PySem.Stmt:=nth (.Pass default) [Yr 5,Yr 7,Yr 9,Yr 10,Qz 17 0,Qz 17 4,Yr 21,Yr 22,Yr 23,Yr 24,Qz 28 0,Qz 28 1,Qz 28 2,Qz 28 3,Qz 28 7,Qz 28 9,Qz 28 10,Qz 28 11,Yr 32,Yr 33,Yr 34,Yr 35,Yr 39,Qz 40 0,Qz 40 2,Qz 40 3,Qz 40 4,Qz 40 9,Qz 40 10,Qz 40 11,Yr 41,Qz 43 0,Qz 43 1,Qz 43 2,Qz 43 3,Qz 44 0,Qz 44 1,Qz 44 2,Qz 44 3,Qz 44 4,Qz 44 5,Qz 49 0,Qz 49 1,Qz 50 0,Qz 50 1,Qz 50 3,Qz 50 4,Qz 50 5,Qz 50 10,Qz 52 0,Qz 52 1,Qz 52 2,Yr 55,Yr 56,Yr 57,Qz 60 0,Qz 60 1,Qz 60 2,Qz 61 0,Qz 61 1,Qz 61 2,Qz 61 3,Qz 61 4,Qz 61 5,Qz 61 6,Qz 61 7,Qz 61 8,Qz 61 9,Yr 64,Yr 65,Yr 66,Yr 67,Yr 68,Yr 69,Yr 70,Yr 71,Yr 72]
def Yz:Nat→List Str:=nth ([]) [[ofString "kinds",ofString "rest"],[ofString "kind"],[ofString "kind",ofString "table"],[ofString "kind"],[ofString "self",ofString "rows",ofString "many"],[ofString "self",ofString "kind"],[ofString "kind"],[ofString "kind"],[ofString "kind"],[ofString "kind"],[ofString "self",ofString "kinds",ofString "fuel"],[ofString "self",ofString "goals",ofString "sides"],[ofString "self",ofString "left",ofString "sides",ofString "waiting"],[ofString "self",ofString "goal",ofString "sides"],[ofString "self",ofString "one",ofString "other",ofString "sides"],[ofString "self",ofString "one",ofString "other"],[ofString "self",ofString "one",ofString "other"],[ofString "self",ofString "sides"],[ofString "one",ofString "other"],[ofString "kinds",ofString "one",ofString "other",ofString "fuel"],[ofString "kinds",ofString "one",ofString "other"],[ofString "kinds",ofString "one",ofString "sig",ofString "fuel"],[ofString "kind"],[ofString "self",ofString "kinds",ofString "taken"],[ofString "self",ofString "kind"],[ofString "self",ofString "kind",ofString "told"],[ofString "self",ofString "one",ofString "other",ofString "told"],[ofString "self",ofString "one",ofString "other",ofString "told"],[ofString "self",ofString "one",ofString "other",ofString "told"],[ofString "self",ofString "one",ofString "other",ofString "told"],[ofString "kinds",ofString "one",ofString "other"],[ofString "self",ofString "tables"],[ofString "self",ofString "user",ofString "name",ofString "kind"],[ofString "self",ofString "user",ofString "method"],[ofString "self",ofString "method"],[ofString "self",ofString "edges"],[ofString "self",ofString "user",ofString "world"],[ofString "self",ofString "user"],[ofString "self",ofString "user",ofString "world"],[ofString "self",ofString "user",ofString "world"],[ofString "self",ofString "method"],[ofString "self",ofString "name",ofString "params",ofString "above",ofString "is_abstract",ofString "is_mutable",ofString "fields"],[ofString "self",ofString "params"],[ofString "self"],[ofString "self",ofString "decl"],[ofString "self",ofString "name"],[ofString "self",ofString "kind"],[ofString "self",ofString "kind"],[ofString "self",ofString "kind"],[ofString "self",ofString "number",ofString "table",ofString "sig",ofString "names",ofString "has_rest",ofString "code",ofString "tree",ofString "world_from",ofString "world_to"],[ofString "self",ofString "world"],[ofString "self",ofString "world"],[ofString "kinds",ofString "one",ofString "other"],[ofString "kinds",ofString "sigs",ofString "at"],[ofString "kinds",ofString "sigs"],[ofString "self",ofString "name"],[ofString "self",ofString "method",ofString "kinds"],[ofString "self",ofString "world"],[ofString "self",ofString "kinds"],[ofString "self",ofString "name"],[ofString "self",ofString "method"],[ofString "self",ofString "name",ofString "world"],[ofString "self",ofString "name",ofString "kind",ofString "world"],[ofString "self",ofString "name",ofString "kind",ofString "world"],[ofString "self",ofString "name",ofString "kind",ofString "world"],[ofString "self",ofString "method",ofString "kind",ofString "others"],[ofString "self",ofString "name",ofString "kind",ofString "world"],[ofString "self",ofString "name",ofString "kind",ofString "world"],[ofString "script"],[ofString "jar",ofString "many"],[ofString "jar",ofString "names"],[ofString "name",ofString "words"],[ofString "wide",ofString "row"],[ofString "one",ofString "other"],[ofString "methods",ofString "name",ofString "row"],[ofString "tables",ofString "methods",ofString "name",ofString "words"],[ofString "script"]]
def Mj:Nat→Vw:=nth ([]) [GL,NT,MQ,Wt,Iq,Na,Da,MR,GS,Lj,MY,ON,Js,MM,Nc,Uj,B3,Z0,IJ,IR,D6,LD,Me,My,BF,Bo,UV,Wl,Z4,Wj,Mk,Dd,IV,Us,Bd,MJ,NP,NR,Uv,MT,U9,Dg,No,I8,NU,IL,Nt,Mz,WG,MO,Nw,IO,W1,BA,LI,I1,Gi,Ix,MK,Mt,ZJ,M3,B6,NZ,Z7,WU,ZB,NX,Nr,Hn,Gv,Ds,II,DN,IT,LE,CU]
theorem Qo {P:Nat→Prop}{n:Nat}(h:∀f,f<n→P f)(p:P n):∀f,f<n+1→P f:=fun f hf=>(Nat.lt_or_eq_of_le (Nat.le_of_lt_succ hf)).elim (h f) fun e=>e▸p
def Qu (c:Cx)(C:CT)(d:Nat)(f:Nat):Prop:=WP c C d (fnS (JW f)) (Mj f) (fnB (JW f)) (QN (Nd f))
def Qbz (f:Nat):List SX:=(fnB (JW f)).map (sS cmL cvL (cc cmL 20) (fnS (JW f)) (Mj f) 9)
theorem bd {c:Cx}(G:Kf c)(T:Tp c){C:CT}{d:Nat}(HC:YP c d C){f:Nat}(h:Qbz f=Nd f):Qu c C d f:=Vo G T HC h
theorem Ek {c:Cx}{C:CT}{d:Nat}:∀f,f<0→Qu c C d f:=fun Z h=>absurd h (Nat.not_lt_zero _)
theorem RN {c:Cx}(G:Kf c)(T:Tp c){C:CT}{d:Nat}(HC:YP c d C):∀f,f<20→Qu c C d f:=by
 have h0:=@Ek c C d
 have h1:=Qo (P:=Qu c C d) (n:=0) h0 (bd G T HC (by kernel_rfl))
 have h2:=Qo (P:=Qu c C d) (n:=1) h1 (bd G T HC (by kernel_rfl))
 have h3:=Qo (P:=Qu c C d) (n:=2) h2 (bd G T HC (by kernel_rfl))
 have h4:=Qo (P:=Qu c C d) (n:=3) h3 (DW G T HC)
 have h5:=Qo (P:=Qu c C d) (n:=4) h4 (bd G T HC (by kernel_rfl))
 have h6:=Qo (P:=Qu c C d) (n:=5) h5 (bd G T HC (by kernel_rfl))
 have h7:=Qo (P:=Qu c C d) (n:=6) h6 (bd G T HC (by kernel_rfl))
 have h8:=Qo (P:=Qu c C d) (n:=7) h7 (bd G T HC (by kernel_rfl))
 have h9:=Qo (P:=Qu c C d) (n:=8) h8 (bd G T HC (by kernel_rfl))
 have h10:=Qo (P:=Qu c C d) (n:=9) h9 (bd G T HC (by kernel_rfl))
 have h11:=Qo (P:=Qu c C d) (n:=10) h10 (bd G T HC (by kernel_rfl))
 have h12:=Qo (P:=Qu c C d) (n:=11) h11 (bd G T HC (by kernel_rfl))
 have h13:=Qo (P:=Qu c C d) (n:=12) h12 (Nq G T HC)
 have h14:=Qo (P:=Qu c C d) (n:=13) h13 (bd G T HC (by kernel_rfl))
 have h15:=Qo (P:=Qu c C d) (n:=14) h14 (bd G T HC (by kernel_rfl))
 have h16:=Qo (P:=Qu c C d) (n:=15) h15 (bd G T HC (by kernel_rfl))
 have h17:=Qo (P:=Qu c C d) (n:=16) h16 (bd G T HC (by kernel_rfl))
 have h18:=Qo (P:=Qu c C d) (n:=17) h17 (bd G T HC (by kernel_rfl))
 have h19:=Qo (P:=Qu c C d) (n:=18) h18 (bd G T HC (by kernel_rfl))
 have h20:=Qo (P:=Qu c C d) (n:=19) h19 (bd G T HC (by kernel_rfl))
 exact h20
theorem SJ {c:Cx}(G:Kf c)(T:Tp c){C:CT}{d:Nat}(HC:YP c d C):∀f,f<40→Qu c C d f:=by
 have h20:=(RN G T HC)
 have h21:=Qo (P:=Qu c C d) (n:=20) h20 (bd G T HC (by kernel_rfl))
 have h22:=Qo (P:=Qu c C d) (n:=21) h21 (bd G T HC (by kernel_rfl))
 have h23:=Qo (P:=Qu c C d) (n:=22) h22 (bd G T HC (by kernel_rfl))
 have h24:=Qo (P:=Qu c C d) (n:=23) h23 (bd G T HC (by kernel_rfl))
 have h25:=Qo (P:=Qu c C d) (n:=24) h24 (bd G T HC (by kernel_rfl))
 have h26:=Qo (P:=Qu c C d) (n:=25) h25 (bd G T HC (by kernel_rfl))
 have h27:=Qo (P:=Qu c C d) (n:=26) h26 (bd G T HC (by kernel_rfl))
 have h28:=Qo (P:=Qu c C d) (n:=27) h27 (bd G T HC (by kernel_rfl))
 have h29:=Qo (P:=Qu c C d) (n:=28) h28 (bd G T HC (by kernel_rfl))
 have h30:=Qo (P:=Qu c C d) (n:=29) h29 (bd G T HC (by kernel_rfl))
 have h31:=Qo (P:=Qu c C d) (n:=30) h30 (bd G T HC (by kernel_rfl))
 have h32:=Qo (P:=Qu c C d) (n:=31) h31 (bd G T HC (by kernel_rfl))
 have h33:=Qo (P:=Qu c C d) (n:=32) h32 (bd G T HC (by kernel_rfl))
 have h34:=Qo (P:=Qu c C d) (n:=33) h33 (bd G T HC (by kernel_rfl))
 have h35:=Qo (P:=Qu c C d) (n:=34) h34 (bd G T HC (by kernel_rfl))
 have h36:=Qo (P:=Qu c C d) (n:=35) h35 (bd G T HC (by kernel_rfl))
 have h37:=Qo (P:=Qu c C d) (n:=36) h36 (bd G T HC (by kernel_rfl))
 have h38:=Qo (P:=Qu c C d) (n:=37) h37 (bd G T HC (by kernel_rfl))
 have h39:=Qo (P:=Qu c C d) (n:=38) h38 (bd G T HC (by kernel_rfl))
 have h40:=Qo (P:=Qu c C d) (n:=39) h39 (bd G T HC (by kernel_rfl))
 exact h40
theorem TD {c:Cx}(G:Kf c)(T:Tp c){C:CT}{d:Nat}(HC:YP c d C):∀f,f<60→Qu c C d f:=by
 have h40:=(SJ G T HC)
 have h41:=Qo (P:=Qu c C d) (n:=40) h40 (bd G T HC (by kernel_rfl))
 have h42:=Qo (P:=Qu c C d) (n:=41) h41 (bd G T HC (by kernel_rfl))
 have h43:=Qo (P:=Qu c C d) (n:=42) h42 (bd G T HC (by kernel_rfl))
 have h44:=Qo (P:=Qu c C d) (n:=43) h43 (bd G T HC (by kernel_rfl))
 have h45:=Qo (P:=Qu c C d) (n:=44) h44 (bd G T HC (by kernel_rfl))
 have h46:=Qo (P:=Qu c C d) (n:=45) h45 (bd G T HC (by kernel_rfl))
 have h47:=Qo (P:=Qu c C d) (n:=46) h46 (bd G T HC (by kernel_rfl))
 have h48:=Qo (P:=Qu c C d) (n:=47) h47 (bd G T HC (by kernel_rfl))
 have h49:=Qo (P:=Qu c C d) (n:=48) h48 (bd G T HC (by kernel_rfl))
 have h50:=Qo (P:=Qu c C d) (n:=49) h49 (bd G T HC (by kernel_rfl))
 have h51:=Qo (P:=Qu c C d) (n:=50) h50 (bd G T HC (by kernel_rfl))
 have h52:=Qo (P:=Qu c C d) (n:=51) h51 (bd G T HC (by kernel_rfl))
 have h53:=Qo (P:=Qu c C d) (n:=52) h52 (bd G T HC (by kernel_rfl))
 have h54:=Qo (P:=Qu c C d) (n:=53) h53 (bd G T HC (by kernel_rfl))
 have h55:=Qo (P:=Qu c C d) (n:=54) h54 (bd G T HC (by kernel_rfl))
 have h56:=Qo (P:=Qu c C d) (n:=55) h55 (bd G T HC (by kernel_rfl))
 have h57:=Qo (P:=Qu c C d) (n:=56) h56 (bd G T HC (by kernel_rfl))
 have h58:=Qo (P:=Qu c C d) (n:=57) h57 (bd G T HC (by kernel_rfl))
 have h59:=Qo (P:=Qu c C d) (n:=58) h58 (bd G T HC (by kernel_rfl))
 have h60:=Qo (P:=Qu c C d) (n:=59) h59 (bd G T HC (by kernel_rfl))
 exact h60
theorem RE {c:Cx}(G:Kf c)(T:Tp c){C:CT}{d:Nat}(HC:YP c d C):∀f,f<77→Qu c C d f:=by
 have h60:=(TD G T HC)
 have h61:=Qo (P:=Qu c C d) (n:=60) h60 (OT G T HC)
 have h62:=Qo (P:=Qu c C d) (n:=61) h61 (bd G T HC (by kernel_rfl))
 have h63:=Qo (P:=Qu c C d) (n:=62) h62 (bd G T HC (by kernel_rfl))
 have h64:=Qo (P:=Qu c C d) (n:=63) h63 (bd G T HC (by kernel_rfl))
 have h65:=Qo (P:=Qu c C d) (n:=64) h64 (bd G T HC (by kernel_rfl))
 have h66:=Qo (P:=Qu c C d) (n:=65) h65 (bd G T HC (by kernel_rfl))
 have h67:=Qo (P:=Qu c C d) (n:=66) h66 (bd G T HC (by kernel_rfl))
 have h68:=Qo (P:=Qu c C d) (n:=67) h67 (bd G T HC (by kernel_rfl))
 have h69:=Qo (P:=Qu c C d) (n:=68) h68 (Lu G T HC)
 have h70:=Qo (P:=Qu c C d) (n:=69) h69 (bd G T HC (by kernel_rfl))
 have h71:=Qo (P:=Qu c C d) (n:=70) h70 (bd G T HC (by kernel_rfl))
 have h72:=Qo (P:=Qu c C d) (n:=71) h71 (bd G T HC (by kernel_rfl))
 have h73:=Qo (P:=Qu c C d) (n:=72) h72 (bd G T HC (by kernel_rfl))
 have h74:=Qo (P:=Qu c C d) (n:=73) h73 (bd G T HC (by kernel_rfl))
 have h75:=Qo (P:=Qu c C d) (n:=74) h74 (bd G T HC (by kernel_rfl))
 have h76:=Qo (P:=Qu c C d) (n:=75) h75 (bd G T HC (by kernel_rfl))
 have h77:=Qo (P:=Qu c C d) (n:=76) h76 (bd G T HC (by kernel_rfl))
 exact h77
def StB (f:Nat):Bool:=
 decide ((fnS (JW f)).kind=.function)&&!(fnS (JW f)).isGenerator&&!(fnS (JW f)).isCoroutine&&decide (Yz f).Nodup&&
 (Yz f).all (fun x=>decide ((fnS (JW f)).names.lookup x=some .local∨(fnS (JW f)).names.lookup x=some .cell))&&
 decide ((Mj f).map (·.2)).Nodup&&decide ((Mj f).map (·.1)).Nodup&&
 (Mj f).all (fun p=>decide ((fnS (JW f)).names.lookup p.2=some .local∨(fnS (JW f)).names.lookup p.2=some .cell))&&
 (Mj f).all (fun p=>decide (p.1<(Yz f).length→(Yz f)[p.1]?=some p.2))&&decide ((Qm f).1=(Yz f).length)
theorem CK:∀f,f<NF→StB f=true:=by decide+kernel
def dFn:Data→Option FuncData
 |.func fd=>some fd
 |_=>none
def dSq:Data→Option (List Value)
 |.seq items _=>some items.toList
 |_=>none
def fnD (K:Frag)(a:Addr):Option FuncData:=(K.lookup a).bind fun o=>dFn o.data
def fdK (K:Frag)(a:Addr):FuncData:=(fnD K a).getD default
def Fx (K:Frag)(a:Addr):Option (FuncBody×Scope×Addr×Addr×List (Str×Addr)×Bool):=(fnD K a).map fun fd=>(fd.body,fd.scope,fd.globals,fd.builtins,fd.closure,codeIn K fd.code fd.qualname)
theorem XL {D:Data}{l:FuncData}(e:dFn D=some l):D=.func l:=by
 cases D<;>first|exact fo e|exact congrArg Data.func (Option.some.inj e)
theorem Vy {K:Frag}{a:Addr}{fd:FuncData}(e:fnD K a=some fd):∃cl dd sl,K.lookup a=some ⟨cl,dd,.func fd,sl⟩:=by
 obtain⟨o,hl,e⟩:=Option.bind_eq_some_iff.mp e
 exact⟨o.cls,o.dict,o.slots,by rw[←XL e];exact hl⟩
def Ve (st:PySem.Stmt):Option (FuncBody×Scope×Addr×Addr×List (Str×Addr)×Bool):=some (.stmts (fnB st),fnS st,mainGlobals,builtinsNs,[],true)
def vNo:Value→Bool
 |.none=>true
 |_=>false
def vIn:Value→Option Int
 |.int i _=>some i
 |_=>none
def vSt:Value→Option Str
 |.str x _=>some x
 |_=>none
def vRf:Value→Option Addr
 |.ref a=>some a
 |_=>none
def vBo:Value→Option Bool
 |.bool b=>some b
 |_=>none
def vTy:Value→Option String
 |.type c=>some c
 |_=>none
def Gn (t:String)(o:Option Obj):Option (List Value):=o.bind fun o=>(vTy o.cls).bind fun c=>gd (decide (c=t)) (dSq o.data)
def TR (K:Frag):Nat→PV→Value→Bool
 |0=>fun Z Z=>false
 |n+1=>fun p v=>match p with
  |.none=>vNo v
  |.bool a=>vBo v==some a
  |.int i=>vIn v==some i
  |.sym k=>Nat.blt k NS&&decide (vSt v=some (JY k))
  |.tup l=>((vRf v).bind fun a=>Gn "tuple" (K.lookup a)).elim false fun vs=>Nat.beq vs.length l.length&&(l.zip vs).all fun q=>TR K n q.1 q.2
  |_=>false
theorem UT {c:Cx}{m:Mp}{N:Nat}{h:Heap}{f:PV→Value→Bool}:∀{ps:List PV} {vs:List Value},(∀p v,f p v=true→Val c m N h p v)→Nat.beq vs.length ps.length=true→(ps.zip vs).all (fun q=>f q.1 q.2)=true→QD c m N h ps vs
 |[],[],_,_,_=>rfl
 |[],_::_,_,e,_=>ff e
 |_::_,[],_,e,_=>ff e
 |p::ps,v::vs,H,e,h=>by
  simp only[List.zip_cons_cons,List.all_cons,Bool.and_eq_true]at h
  exact⟨v,vs,rfl,H _ _ h.1,UT H e h.2⟩
theorem VA {v:Value}(e:vNo v=true):v=.none:=by
 cases v with
 |none=>rfl
 |_=>exact ff e
theorem VD {v:Value}{i:Int}(e:vIn v=some i):∃t,v=.int i t:=by
 cases v with
 |int j t=>cases e;exact⟨_,rfl⟩
 |_=>exact fo e
theorem Vp {v:Value}{i:Str}(e:vSt v=some i):∃t,v=.str i t:=by
 cases v with
 |str j t=>cases e;exact⟨_,rfl⟩
 |_=>exact fo e
theorem FG {v:Value}{i:Addr}(e:vRf v=some i):v=.ref i:=by
 cases v with
 |ref a=>cases e;rfl
 |_=>exact fo e
theorem Ec {v:Value}{i:Bool}(e:vBo v=some i):v=.bool i:=by
 cases v with
 |bool a=>cases e;rfl
 |_=>exact fo e
theorem VX {D:Data}{l:List Value}(e:dSq D=some l):∃items n,D=.seq items n∧l=items.toList:=by
 cases D<;>first|exact fo e|exact⟨_,_,rfl,(Option.some.inj e).symm⟩
theorem Ep {v:Value}{c:String}(e:vTy v=some c):v=.type c:=by
 cases v<;>first|exact fo e|exact congrArg Value.type (Option.some.inj e)
theorem Pv {t:String}{o:Option Obj}{vs:List Value}(e:Gn t o=some vs):∃dd items n sl,o=some ⟨.type t,dd,.seq items n,sl⟩∧vs=items.toList:=by
 obtain⟨o,rfl,e⟩:=Option.bind_eq_some_iff.mp e
 obtain⟨c,e1,e⟩:=Option.bind_eq_some_iff.mp e
 obtain⟨q,e⟩:=Q1 e
 obtain⟨items,n,e3,e4⟩:=VX e
 have e1:=(Ep e1).trans (congrArg Value.type (of_decide_eq_true q))
 refine⟨o.dict,items,n,o.slots,?_,e4⟩
 rw[←e1,←e3]
theorem O9 {c:Cx}{h:Heap}{K:Frag}(X:K.In h)(m:Mp)(N:Nat):∀(n:Nat) (p:PV) (v:Value),TR K n p v=true→Val c m N h p v
 |0,_,_,e=>ff e
 |n+1,p,v,e=>by
  cases p with
  |none=>exact VA e
  |bool a=>exact Ec (beq_iff_eq.mp e)
  |int i=>exact VD (beq_iff_eq.mp e)
  |sym k=>
   obtain⟨e1,e2⟩:=Bool.and_eq_true_iff.mp e
   exact⟨Nat.lt_of_succ_le (Nat.le_of_ble_eq_true e1),Vp (of_decide_eq_true e2)⟩
  |tup l=>
   have e:Option.elim ((vRf v).bind fun a=>Gn "tuple" (K.lookup a)) false _=true:=e
   cases q:(vRf v).bind fun a=>Gn "tuple" (K.lookup a)with
   |none=>rw[q]at e;exact ff e
   |some vs=>
    obtain⟨a,e1,e2⟩:=Option.bind_eq_some_iff.mp q
    obtain⟨dd,items,ep,sl,hl,rfl⟩:=Pv e2
    rw[q]at e
    obtain⟨e3,e4⟩:=Bool.and_eq_true_iff.mp e
    exact⟨a,items.toList,FG e1,⟨_,X _ _ hl,rfl,ep,rfl⟩,UT (fun p v q=>O9 X m N n p v q) e3 e4⟩
  |_=>exact ff e
def YT (K:Frag)(ps:List PV)(vs:List Value):Bool:=Nat.beq vs.length ps.length&&(ps.zip vs).all fun q=>TR K 4 q.1 q.2
theorem Gq {c:Cx}{h:Heap}{K:Frag}(X:K.In h)(m:Mp)(N:Nat){ps:List PV}{vs:List Value}(e:YT K ps vs=true):QD c m N h ps vs:=by
 unfold YT at e
 simp only[Bool.and_eq_true]at e
 exact UT (fun p v q=>O9 X m N 4 p v q) e.1 e.2
def Vc (K:Frag)(fd:FuncData)(params:List Str)(dps:List PV):Prop:=∀vs:List Value,vs.length≤params.length→params.length - vs.length≤dps.length→
 ∃dv,(∀S,peek K S (bindArgs fd ⟨vs,[]⟩)=some (params.zip (vs++dv)))∧YT K (dps.drop (dps.length - (params.length - vs.length))) dv=true
def Qg (K:Frag)(f:Nat):Prop:=Vc K (fdK K (Yn f)) (Yz f) (Qm f).2.1
def YB (K:Frag)(f:Nat)(vs dv:List Value):Prop:=∀S,peek K S (bindArgs (fdK K (Yn f)) ⟨vs,[]⟩)=some ((Yz f).zip (vs++dv))
def OU:Nat→(List Value→Prop)→Prop
 |0,P=>P []
 |n+1,P=>∀x,OU n fun l=>P (x::l)
theorem Ch (n:Nat):∀(P:List Value→Prop) (vs:List Value),OU n P→vs.length=n→P vs:=by
 induction n with
 |zero=>intro P vs h e;rw[List.eq_nil_of_length_eq_zero e];exact h
 |succ n ih=>
  intro P vs h e
  cases vs with
  |nil=>cases e
  |cons x l=>exact ih _ l (h x) (Nat.succ.inj e)
theorem Lw {n:Nat}{P:List Value→Prop}{vs:List Value}(h:OU n P)(e:vs.length=n):P vs:=Ch n P vs h e
theorem bdG {K:Frag}{f n:Nat}(hn:(Yz f).length=n)(hd:(Qm f).2.1=[])(h:OU n fun vs=>YB K f vs []):Qg K f:=fun vs h1 h2=>by
 rw[hd]at h2 ⊢
 rw[hn]at h1 h2
 exact⟨[],Lw h (Nat.le_antisymm h1 (Nat.le_of_sub_eq_zero (Nat.le_zero.mp h2))),by rw[List.drop_nil];rfl⟩
theorem bd1 {K:Frag}{f:Nat}(hn:(Yz f).length=1)(hd:(Qm f).2.1=[])(h:∀x0:Value,YB K f [x0] []):Qg K f:=bdG hn hd h
theorem bd2 {K:Frag}{f:Nat}(hn:(Yz f).length=2)(hd:(Qm f).2.1=[])(h:∀x0 x1:Value,YB K f [x0,x1] []):Qg K f:=bdG hn hd h
theorem bd3 {K:Frag}{f:Nat}(hn:(Yz f).length=3)(hd:(Qm f).2.1=[])(h:∀x0 x1 x2:Value,YB K f [x0,x1,x2] []):Qg K f:=bdG hn hd h
theorem bd4 {K:Frag}{f:Nat}(hn:(Yz f).length=4)(hd:(Qm f).2.1=[])(h:∀x0 x1 x2 x3:Value,YB K f [x0,x1,x2,x3] []):Qg K f:=bdG hn hd h
theorem bdD {K:Frag}{f n nd:Nat}(hn:(Yz f).length=n)(hd:(Qm f).2.1.length=nd)(hle:nd≤n)(h:∀k,k≤nd→∀vs:List Value,vs.length+k=n→∃dv,YB K f vs dv∧YT K ((Qm f).2.1.drop (nd - k)) dv=true):Qg K f:=fun vs h1 h2=>by
 simp only[hn]at h1
 rw[hn,hd]at h2
 obtain⟨dv,a,b⟩:=h (n - vs.length) h2 vs (by exact o159 h1)
 exact⟨dv,a,by rewrite [hd,hn];exact b⟩
end Mine.Tactic
namespace Mine.Tactic
theorem Q3 {α β:Type}{f g:α→β}{l:List α}(h:l.map f=l.map g){x:α}(hx:x∈l):f x=g x:=List.map_inj_left.mp h x hx
def TQ:List (Nat×Nat):=(List.range 10).flatMap fun c=>(IZ c).map (c,·)
theorem Ls {l:List (Nat×Nat)}{c f:Nat}(h:HV l c=some f):(c,f)∈l:=by
 induction l with
 |nil=>cases h
 |cons p l ih=>
  have h:(bif Nat.beq p.1 c then some p.2 else HV l c)=some f:=h
  cases q:Nat.beq p.1 c with
  |true=>clear ih;rw[q]at h;cases h;rw[←Nat.eq_of_beq_eq_true q];exact .head _
  |false=>rw[q]at h;exact .tail _ (ih h)
theorem Pz {l:List (Nat×Nat×Nat)}{c k f:Nat}(h:HN l c k=some f):(c,k,f)∈l:=by
 induction l with
 |nil=>cases h
 |cons p l ih=>
  have h:(bif Nat.beq p.1 c&&Nat.beq p.2.1 k then some p.2.2 else HN l c k)=some f:=h
  cases q:(Nat.beq p.1 c&&Nat.beq p.2.1 k)with
  |true=>
   clear ih;rw[q]at h;cases h
   obtain⟨a,b⟩:=Bool.and_eq_true_iff.mp q
   rw[←Nat.eq_of_beq_eq_true a,←Nat.eq_of_beq_eq_true b];exact .head _
  |false=>rw[q]at h;exact .tail _ (ih h)
theorem FH {cl mi:Nat}(h:GR cl=some mi):(cl,mi)∈DG:=Ls h
theorem Fn {cl k f:Nat}(h:GB cl k=some f):(cl,k,f)∈OF:=Pz h
theorem H7 {cl k:Nat}(h:ZV cl k=true):(cl,k)∈TQ:=by
 unfold ZV at h
 obtain⟨x,hx,e⟩:=List.any_eq_true.mp h
 clear h;have e:k=x:=Nat.eq_of_beq_eq_true e
 subst e
 have hc:cl<10:=Nat.lt_of_not_le fun q=>by rw[show IZ cl=[] by unfold IZ;rw[List.getD_eq_getElem?_getD,List.getElem?_eq_none q];rfl]at hx;cases hx
 exact List.mem_flatMap.mpr ⟨cl,List.mem_range.mpr hc,List.mem_map.mpr ⟨k,hx,rfl⟩⟩
theorem Tt:∀p∈DG,p.2<NF:=by decide+kernel
theorem SD:∀p∈OF,p.2.1<NA∧p.2.2<NF:=by decide+kernel
theorem Hi:∀p∈TQ,p.2<NA∧p.1<10:=by decide+kernel
theorem RJ:∀p∈OF,p.1<10:=by decide+kernel
def dvK (K:Frag)(a:Addr)(k:Nat):List Value:=((vRf (fdK K a).defaults).bind fun D=>Gn "tuple" (K.lookup D)).elim [] fun l=>l.drop (l.length - k)
theorem Qaf {K:Frag}{f n m:Nat}(e:m+1=n)(hn:(Yz f).length=n)(hd:(Qm f).2.1.length=1)
  (a0:OU n fun vs=>YB K f vs (dvK K (Yn f) 0)) (v0:YT K ((Qm f).2.1.drop (1 - 0)) (dvK K (Yn f) 0)=true)
  (a1:OU m fun vs=>YB K f vs (dvK K (Yn f) 1)) (v1:YT K ((Qm f).2.1.drop (1 - 1)) (dvK K (Yn f) 1)=true):Qg K f:=bdD hn hd (by exact o160 e hn) (fun k hk vs e=>by
 rcases k with _|_|k
 ·exact⟨_,Lw (P:=fun vs=>YB K f vs _) a0 e,v0⟩
 ·exact⟨_,Lw (n:=m) (P:=fun vs=>YB K f vs _) a1 (by exact o161 e (by assumption) hn),v1⟩
 ·exact o162 hk)
theorem VM {K:Frag}{f n m l:Nat}(e:m+1=n)(e':l+1=m)(hn:(Yz f).length=n)(hd:(Qm f).2.1.length=2)
  (a0:OU n fun vs=>YB K f vs (dvK K (Yn f) 0)) (v0:YT K ((Qm f).2.1.drop (2 - 0)) (dvK K (Yn f) 0)=true)
  (a1:OU m fun vs=>YB K f vs (dvK K (Yn f) 1)) (v1:YT K ((Qm f).2.1.drop (2 - 1)) (dvK K (Yn f) 1)=true)
  (a2:OU l fun vs=>YB K f vs (dvK K (Yn f) 2)) (v2:YT K ((Qm f).2.1.drop (2 - 2)) (dvK K (Yn f) 2)=true):Qg K f:=bdD hn hd (by exact o163 e' e hn) (fun k hk vs e=>by
 refine q1 k ?_;intro Q;rcases k with _|_|_|k
 ·exact⟨_,Lw (P:=fun vs=>YB K f vs _) a0 e,v0⟩
 ·exact⟨_,Lw (n:=m) (P:=fun vs=>YB K f vs _) a1 (by exact o164 e (by assumption) e' hn),v1⟩
 ·exact⟨_,Lw (n:=l) (P:=fun vs=>YB K f vs _) a2 (by exact o165 e (by assumption) e' hn),v2⟩
 ·exact o166 hk)
theorem Tq {K:Frag}{f:Nat}(hn:(Yz f).length=2)(hd:(Qm f).2.1.length=1)
 (a0:∀x0 x1:Value,YB K f [x0,x1] (dvK K (Yn f) 0)) (v0:YT K ((Qm f).2.1.drop (1 - 0)) (dvK K (Yn f) 0)=true)
 (a1:∀x0:Value,YB K f [x0] (dvK K (Yn f) 1)) (v1:YT K ((Qm f).2.1.drop (1 - 1)) (dvK K (Yn f) 1)=true):Qg K f:=Qaf (m:=1) rfl hn hd a0 v0 a1 v1
theorem RD {K:Frag}{f:Nat}(hn:(Yz f).length=3)(hd:(Qm f).2.1.length=2)
 (a0:∀x0 x1 x2:Value,YB K f [x0,x1,x2] (dvK K (Yn f) 0)) (v0:YT K ((Qm f).2.1.drop (2 - 0)) (dvK K (Yn f) 0)=true)
 (a1:∀x0 x1:Value,YB K f [x0,x1] (dvK K (Yn f) 1)) (v1:YT K ((Qm f).2.1.drop (2 - 1)) (dvK K (Yn f) 1)=true)
 (a2:∀x0:Value,YB K f [x0] (dvK K (Yn f) 2)) (v2:YT K ((Qm f).2.1.drop (2 - 2)) (dvK K (Yn f) 2)=true):Qg K f:=VM (m:=2) (l:=1) rfl rfl hn hd a0 v0 a1 v1 a2 v2
theorem Hy {K:Frag}{f:Nat}(hn:(Yz f).length=4)(hd:(Qm f).2.1.length=1)
 (a0:∀x0 x1 x2 x3:Value,YB K f [x0,x1,x2,x3] (dvK K (Yn f) 0)) (v0:YT K ((Qm f).2.1.drop (1 - 0)) (dvK K (Yn f) 0)=true)
 (a1:∀x0 x1 x2:Value,YB K f [x0,x1,x2] (dvK K (Yn f) 1)) (v1:YT K ((Qm f).2.1.drop (1 - 1)) (dvK K (Yn f) 1)=true):Qg K f:=Qaf (m:=3) rfl hn hd a0 v0 a1 v1
theorem Rh {K:Frag}{f:Nat}(hn:(Yz f).length=7)(hd:(Qm f).2.1.length=2)
 (a0:∀x0 x1 x2 x3 x4 x5 x6:Value,YB K f [x0,x1,x2,x3,x4,x5,x6] (dvK K (Yn f) 0)) (v0:YT K ((Qm f).2.1.drop (2 - 0)) (dvK K (Yn f) 0)=true)
 (a1:∀x0 x1 x2 x3 x4 x5:Value,YB K f [x0,x1,x2,x3,x4,x5] (dvK K (Yn f) 1)) (v1:YT K ((Qm f).2.1.drop (2 - 1)) (dvK K (Yn f) 1)=true)
 (a2:∀x0 x1 x2 x3 x4:Value,YB K f [x0,x1,x2,x3,x4] (dvK K (Yn f) 2)) (v2:YT K ((Qm f).2.1.drop (2 - 2)) (dvK K (Yn f) 2)=true):Qg K f:=VM (m:=6) (l:=5) rfl rfl hn hd a0 v0 a1 v1 a2 v2
theorem Kt {K:Frag}{f:Nat}(hn:(Yz f).length=10)(hd:(Qm f).2.1.length=2)
 (a0:∀x0 x1 x2 x3 x4 x5 x6 x7 x8 x9:Value,YB K f [x0,x1,x2,x3,x4,x5,x6,x7,x8,x9] (dvK K (Yn f) 0)) (v0:YT K ((Qm f).2.1.drop (2 - 0)) (dvK K (Yn f) 0)=true)
 (a1:∀x0 x1 x2 x3 x4 x5 x6 x7 x8:Value,YB K f [x0,x1,x2,x3,x4,x5,x6,x7,x8] (dvK K (Yn f) 1)) (v1:YT K ((Qm f).2.1.drop (2 - 1)) (dvK K (Yn f) 1)=true)
 (a2:∀x0 x1 x2 x3 x4 x5 x6 x7:Value,YB K f [x0,x1,x2,x3,x4,x5,x6,x7] (dvK K (Yn f) 2)) (v2:YT K ((Qm f).2.1.drop (2 - 2)) (dvK K (Yn f) 2)=true):Qg K f:=VM (m:=9) (l:=8) rfl rfl hn hd a0 v0 a1 v1 a2 v2
theorem S8 {K:Frag}(h0:Qg K 0)(h1:Qg K 1)(h2:Qg K 2)(h3:Qg K 3)(h4:Qg K 4)(h5:Qg K 5)(h6:Qg K 6)(h7:Qg K 7)(h8:Qg K 8)(h9:Qg K 9)(h10:Qg K 10)(h11:Qg K 11)(h12:Qg K 12)(h13:Qg K 13)(h14:Qg K 14)(h15:Qg K 15)(h16:Qg K 16)(h17:Qg K 17)(h18:Qg K 18)(h19:Qg K 19):∀f,f<20→Qg K f:=by
 have g0:∀f,f<0→Qg K f:=fun f h=>absurd h (Nat.not_lt_zero f)
 have g1:=Qo (P:=Qg K) (n:=0) g0 h0
 have g2:=Qo (P:=Qg K) (n:=1) g1 h1
 have g3:=Qo (P:=Qg K) (n:=2) g2 h2
 have g4:=Qo (P:=Qg K) (n:=3) g3 h3
 have g5:=Qo (P:=Qg K) (n:=4) g4 h4
 have g6:=Qo (P:=Qg K) (n:=5) g5 h5
 have g7:=Qo (P:=Qg K) (n:=6) g6 h6
 have g8:=Qo (P:=Qg K) (n:=7) g7 h7
 have g9:=Qo (P:=Qg K) (n:=8) g8 h8
 have g10:=Qo (P:=Qg K) (n:=9) g9 h9
 have g11:=Qo (P:=Qg K) (n:=10) g10 h10
 have g12:=Qo (P:=Qg K) (n:=11) g11 h11
 have g13:=Qo (P:=Qg K) (n:=12) g12 h12
 have g14:=Qo (P:=Qg K) (n:=13) g13 h13
 have g15:=Qo (P:=Qg K) (n:=14) g14 h14
 have g16:=Qo (P:=Qg K) (n:=15) g15 h15
 have g17:=Qo (P:=Qg K) (n:=16) g16 h16
 have g18:=Qo (P:=Qg K) (n:=17) g17 h17
 have g19:=Qo (P:=Qg K) (n:=18) g18 h18
 have g20:=Qo (P:=Qg K) (n:=19) g19 h19
 exact g20
theorem Rv {K:Frag}(g20:∀f,f<20→Qg K f)(h20:Qg K 20)(h21:Qg K 21)(h22:Qg K 22)(h23:Qg K 23)(h24:Qg K 24)(h25:Qg K 25)(h26:Qg K 26)(h27:Qg K 27)(h28:Qg K 28)(h29:Qg K 29)(h30:Qg K 30)(h31:Qg K 31)(h32:Qg K 32)(h33:Qg K 33)(h34:Qg K 34)(h35:Qg K 35)(h36:Qg K 36)(h37:Qg K 37)(h38:Qg K 38)(h39:Qg K 39):∀f,f<40→Qg K f:=by
 have g21:=Qo (P:=Qg K) (n:=20) g20 h20
 have g22:=Qo (P:=Qg K) (n:=21) g21 h21
 have g23:=Qo (P:=Qg K) (n:=22) g22 h22
 have g24:=Qo (P:=Qg K) (n:=23) g23 h23
 have g25:=Qo (P:=Qg K) (n:=24) g24 h24
 have g26:=Qo (P:=Qg K) (n:=25) g25 h25
 have g27:=Qo (P:=Qg K) (n:=26) g26 h26
 have g28:=Qo (P:=Qg K) (n:=27) g27 h27
 have g29:=Qo (P:=Qg K) (n:=28) g28 h28
 have g30:=Qo (P:=Qg K) (n:=29) g29 h29
 have g31:=Qo (P:=Qg K) (n:=30) g30 h30
 have g32:=Qo (P:=Qg K) (n:=31) g31 h31
 have g33:=Qo (P:=Qg K) (n:=32) g32 h32
 have g34:=Qo (P:=Qg K) (n:=33) g33 h33
 have g35:=Qo (P:=Qg K) (n:=34) g34 h34
 have g36:=Qo (P:=Qg K) (n:=35) g35 h35
 have g37:=Qo (P:=Qg K) (n:=36) g36 h36
 have g38:=Qo (P:=Qg K) (n:=37) g37 h37
 have g39:=Qo (P:=Qg K) (n:=38) g38 h38
 have g40:=Qo (P:=Qg K) (n:=39) g39 h39
 exact g40
theorem Ry {K:Frag}(g40:∀f,f<40→Qg K f)(h40:Qg K 40)(h41:Qg K 41)(h42:Qg K 42)(h43:Qg K 43)(h44:Qg K 44)(h45:Qg K 45)(h46:Qg K 46)(h47:Qg K 47)(h48:Qg K 48)(h49:Qg K 49)(h50:Qg K 50)(h51:Qg K 51)(h52:Qg K 52)(h53:Qg K 53)(h54:Qg K 54)(h55:Qg K 55)(h56:Qg K 56)(h57:Qg K 57)(h58:Qg K 58)(h59:Qg K 59):∀f,f<60→Qg K f:=by
 have g41:=Qo (P:=Qg K) (n:=40) g40 h40
 have g42:=Qo (P:=Qg K) (n:=41) g41 h41
 have g43:=Qo (P:=Qg K) (n:=42) g42 h42
 have g44:=Qo (P:=Qg K) (n:=43) g43 h43
 have g45:=Qo (P:=Qg K) (n:=44) g44 h44
 have g46:=Qo (P:=Qg K) (n:=45) g45 h45
 have g47:=Qo (P:=Qg K) (n:=46) g46 h46
 have g48:=Qo (P:=Qg K) (n:=47) g47 h47
 have g49:=Qo (P:=Qg K) (n:=48) g48 h48
 have g50:=Qo (P:=Qg K) (n:=49) g49 h49
 have g51:=Qo (P:=Qg K) (n:=50) g50 h50
 have g52:=Qo (P:=Qg K) (n:=51) g51 h51
 have g53:=Qo (P:=Qg K) (n:=52) g52 h52
 have g54:=Qo (P:=Qg K) (n:=53) g53 h53
 have g55:=Qo (P:=Qg K) (n:=54) g54 h54
 have g56:=Qo (P:=Qg K) (n:=55) g55 h55
 have g57:=Qo (P:=Qg K) (n:=56) g56 h56
 have g58:=Qo (P:=Qg K) (n:=57) g57 h57
 have g59:=Qo (P:=Qg K) (n:=58) g58 h58
 have g60:=Qo (P:=Qg K) (n:=59) g59 h59
 exact g60
theorem Rf {K:Frag}(g60:∀f,f<60→Qg K f)(h60:Qg K 60)(h61:Qg K 61)(h62:Qg K 62)(h63:Qg K 63)(h64:Qg K 64)(h65:Qg K 65)(h66:Qg K 66)(h67:Qg K 67)(h68:Qg K 68)(h69:Qg K 69)(h70:Qg K 70)(h71:Qg K 71)(h72:Qg K 72)(h73:Qg K 73)(h74:Qg K 74)(h75:Qg K 75)(h76:Qg K 76):∀f,f<77→Qg K f:=by
 have g61:=Qo (P:=Qg K) (n:=60) g60 h60
 have g62:=Qo (P:=Qg K) (n:=61) g61 h61
 have g63:=Qo (P:=Qg K) (n:=62) g62 h62
 have g64:=Qo (P:=Qg K) (n:=63) g63 h63
 have g65:=Qo (P:=Qg K) (n:=64) g64 h64
 have g66:=Qo (P:=Qg K) (n:=65) g65 h65
 have g67:=Qo (P:=Qg K) (n:=66) g66 h66
 have g68:=Qo (P:=Qg K) (n:=67) g67 h67
 have g69:=Qo (P:=Qg K) (n:=68) g68 h68
 have g70:=Qo (P:=Qg K) (n:=69) g69 h69
 have g71:=Qo (P:=Qg K) (n:=70) g70 h70
 have g72:=Qo (P:=Qg K) (n:=71) g71 h71
 have g73:=Qo (P:=Qg K) (n:=72) g72 h72
 have g74:=Qo (P:=Qg K) (n:=73) g73 h73
 have g75:=Qo (P:=Qg K) (n:=74) g74 h74
 have g76:=Qo (P:=Qg K) (n:=75) g75 h75
 have g77:=Qo (P:=Qg K) (n:=76) g76 h76
 exact g77
theorem KU {k:Nat}{l:List PV}(hk:WR k=some l):k∈[9,10,11,12]:=by
 unfold WR at hk
 cases q:Nat.blt 8 k with
 |false=>rw[q]at hk;cases hk
 |true=>
  rw[q]at hk
  have h1:=Nat.le_of_ble_eq_true q
  clear q;have h2:k - 9<4:=Qc hk
  clear hk;obtain⟨j,rfl⟩:=Nat.exists_eq_add_of_le h1
  rw[show 8+1+j - 9=j from Nat.add_sub_cancel_left ..]at h2
  exact(show∀j<4,8+1+j∈[9,10,11,12] by decide) j h2
def Rd (o:Option (Option Value)):Option Addr:=(o.bind id).bind vRf
def Xc (K:Frag)(O:Addr):Bool:=[9,10,11,12].all fun n=>(WR n).elim false fun l=>((Rd (nsIn K O (JY n))).bind fun a=>Gn "list" (K.lookup a)).elim false (YT K l)
theorem Ra {o:Option (Option Value)}{a:Addr}(e:Rd o=some a):o=some (some (.ref a)):=by
 obtain⟨v,e1,e2⟩:=Option.bind_eq_some_iff.mp e
 obtain⟨v',e3,e4⟩:=Option.bind_eq_some_iff.mp e1
 simp only[e3,show v'=some v from e4,FG e2]
structure KOk (P:Params) (K:Frag):Prop where
 fns:(List.range NF).map (fun f=>Fx K (Yn f))=(List.range NF).map (fun f=>Ve (JW f))
 bnd:∀f,f<NF→Qg K f
 fnN:ZM.map (fun p=>nsIn K mainGlobals p.1)=ZM.map (fun p=>some (some (.ref (Yn p.2))))
 clN:Wz.map (fun p=>nsIn K mainGlobals p.1)=Wz.map (fun p=>some (some (.ref (Zm p.2))))
 noN:Bk.map (fun x=>nsIn K mainGlobals x)=Bk.map (fun Z=>some none)
 glN:Bs.map (fun p=>match nsIn K mainGlobals p.1 with|some (some v)=>TR K 4 p.2 v|_=>false)=Bs.map (fun Z=>true)
 over:∃O es n,nsIn K mainGlobals (ofString "_law_over")=some (some (.ref O))∧K.lookup O=some ⟨.type "dict",none,.dict es n,#[]⟩∧KeysLit P es.toList∧Xc K O=true
 fk:(List.range NF).map (fun f=>(keepIn K (.ref (Yn f)),typeIn K (.ref (Yn f))))=(List.range NF).map (fun Z=>(true,some (.type "function")))
 ck:DG.map (fun p=>(keepIn K (.ref (Zm p.1)),makesIn K (Zm p.1),findIn K (.ref (Zm p.1)) "__init__"))=DG.map (fun p=>(true,true,some (some (.ref (Yn p.2)))))
 cr:(List.range 10).map (fun c=>(hasDictIn K (Zm c),findIn K (.ref (Zm c)) "__getattribute__",findIn K (.ref (Zm c)) "__getattr__",findIn K (.ref (Zm c)) "__setattr__",plainOver K (Zm c)))=
  (List.range 10).map (fun Z=>(true,some (some (.builtin "object.__getattribute__")),some none,some (some (.builtin "object.__setattr__")),true))
 mm:OF.map (fun p=>findIn K (.ref (Zm p.1)) (Q6 p.2.1))=OF.map (fun p=>some (some (.ref (Yn p.2.2))))
 fl:TQ.map (fun p=>((findIn K (.ref (Zm p.1)) (Q6 p.2)).map (noGet K),takerIn K (Zm p.1) (Q6 p.2)))=TQ.map (fun Z=>(some true,some none))
def Nx (w:World)(K:Frag)(g:Heap)(mg mb:Str→Option Value)(scr:Addr)(ns:List Int):Cx:=
 {prog:=PySem.Challenge.pw_pq0728_01,w:=w,g:=g,K:=K,mg:=mg,mb:=mb,scr:=scr,ns:=ns,clsA:=Zm,fnA:=Yn}
section
variable {w:World} {K:Frag} {g:Heap} {mg mb:Str→Option Value} {scr:Addr} {ns:List Int}
structure StQ (f:Nat):Prop where
 s1:(fnS (JW f)).kind=.function
 s2:(fnS (JW f)).isGenerator=false
 s3:(fnS (JW f)).isCoroutine=false
 s4:(Yz f).Nodup
 s5:∀x∈Yz f,(fnS (JW f)).names.lookup x=some .local∨(fnS (JW f)).names.lookup x=some .cell
 s6:((Mj f).map (·.2)).Nodup
 s7:((Mj f).map (·.1)).Nodup
 s8:∀p∈Mj f,(fnS (JW f)).names.lookup p.2=some .local∨(fnS (JW f)).names.lookup p.2=some .cell
 s9:∀p∈Mj f,p.1<(Yz f).length→(Yz f)[p.1]?=some p.2
 s10:(Qm f).1=(Yz f).length
theorem V6 {f:Nat}(hf:f<NF):StQ f:=by
 have st:=CK f hf
 unfold StB at st
 simp only[Bool.and_eq_true,decide_eq_true_eq,List.all_eq_true,Bool.not_eq_true']at st
 obtain⟨⟨⟨⟨⟨⟨⟨⟨⟨s1,s2⟩,s3⟩,s4⟩,s5⟩,s6⟩,s7⟩,s8⟩,s9⟩,s10⟩:=st
 exact⟨s1,s2,s3,s4,s5,s6,s7,s8,s9,s10⟩
theorem CE (hK:KOk w.params K)(X:K.In g){f:Nat}(hf:f<NF):Vd (Nx w K g mg mb scr ns) f (fnS (JW f)) (fnB (JW f)) (Yz f) (Qm f).2.1 (fdK K (Yn f)):=by
 obtain⟨fd,e1,row⟩:=Option.map_eq_some_iff.mp (Q3 hK.fns (List.mem_range.mpr hf):Fx K (Yn f)=some _)
 have st:=V6 hf
 obtain⟨cl,dd,sl,hl⟩:=Vy e1
 have bd:=hK.bnd f hf
 unfold Qg at bd
 have e2:fdK K (Yn f)=fd:=congrArg (Option.getD · default) e1
 simp only[e2]at bd ⊢
 injection row with r1 row
 injection row with r2 row
 injection row with r3 row
 injection row with r4 row
 injection row with r5 r6
 refine⟨⟨_,X _ _ hl,rfl⟩,r1,r2,r3,r4,r5,codeRec_of X r6,st.s1,st.s2,st.s3,fun s vs k h1 h2=>?_,st.s4,st.s5⟩
 obtain⟨dv,a,b⟩:=bd vs h1 h2
 have XK:K.In s.heap:=fun a o e=>k a o (X a o e)
 exact⟨dv,kp_binds XK a,fun m N=>Gq XK m N b⟩
theorem Qai {f:Nat}(hf:f<NF):AL (fnS (JW f)) (Yz f) (Mj f):=
 have st:=V6 hf
 ⟨st.s6,st.s7,st.s8,st.s9⟩
theorem A6 {f:Nat}(hf:f<NF):(Qm f).1=(Yz f).length:=(V6 hf).s10
theorem Cu (hK:KOk w.params K)(X:K.In g)(hg:g.Ns mainGlobals mg)(hb:g.Ns builtinsNs mb)(hl:g.NoLimit)(hblt:∀x:Str,x≠"__name__"→mb x=bootBuiltins x)(big:∃o,g.get? sysModules=some o)
  (hs:∃vs,g.IsList scr vs.toArray∧IntsAre vs ns) (hn:ns.length≤63):Kf (Nx w K g mg mb scr ns) where
 g:=hg
 b:=hb
 nolimit:=hl
 blt:=hblt
 K:=X
 big:=big
 scr:=hs
 scrN:=Int.lt_of_le_of_lt (Int.ofNat_le.mpr hn) (by decide)
 get:=fun cl k h=>by
  have hm:=H7 h
  have h1:=Q3 hK.fl hm
  have h2:=Q3 hK.cr (List.mem_range.mpr (Hi _ hm).2)
  injection h1 with a1 a2
  injection h2 with b1 h2
  injection h2 with b2 h2
  refine⟨b1,b2,?_,(Hi _ hm).1⟩
  obtain⟨attr,e1,e2⟩:=Option.map_eq_some_iff.mp a1
  exact⟨attr,e1,e2⟩
 set:=fun cl k h=>by
  have hm:=H7 h
  have h1:=Q3 hK.fl hm
  have h2:=Q3 hK.cr (List.mem_range.mpr (Hi _ hm).2)
  injection h1 with a1 a2
  injection h2 with b1 h2
  injection h2 with b2 h2
  injection h2 with b3 h2
  injection h2 with b4 b5
  exact⟨b4,b5,a2⟩
 fn:=fun f hf=>by
  have h1:=Q3 hK.fk (List.mem_range.mpr hf)
  injection h1
 cls:=fun cl mi h=>by
  refine q0 ?_;intro Q;have hm:=FH h
  have h1:=Q3 hK.ck hm
  have hl:=Tt _ hm
  have h2:=Q3 hK.fk (List.mem_range.mpr hl)
  injection h1 with a1 h1
  injection h1 with a2 a3
  injection h2 with b1 b2
  exact⟨a1,a2,a3,b2,hl⟩
 mth:=fun cl k f h=>by
  refine q0 ?_;intro Q;have hm:=Fn h
  have hl:=SD _ hm
  have h1:=Q3 hK.mm hm
  have h2:=Q3 hK.fk (List.mem_range.mpr hl.2)
  have h3:=Q3 hK.cr (List.mem_range.mpr (RJ _ hm))
  injection h2 with b1 b2
  injection h3 with c1 h3
  injection h3 with c2 h3
  injection h3 with c3 h3
  exact⟨h1,b2,c2,c3,hl.1,hl.2⟩
set_option tactic.hygienic true in
theorem AX (hK:KOk w.params K)(X:K.In g)(hg:g.Ns mainGlobals mg):Tp (Nx w K g mg mb scr ns) where
 fn:=fun p hp=>mg_of X hg (Q3 hK.fnN hp)
 cl:=fun p hp=>mg_of X hg (Q3 hK.clN hp)
 no:=fun x hx=>mg_none_of X hg (Q3 hK.noN hx)
 gl:=fun p hp=>by
  have h:=Q3 hK.glN hp
  split at h
  ·rename_i v e
   exact⟨v,mg_of X hg e,fun m N=>O9 X m N 4 _ _ h⟩
  ·cases h
 over:=by
  obtain⟨O,es,n,h1,h2,h3,h4⟩:=hK.over
  refine⟨O,_,mg_of X hg h1,mapOf_K X h2 h3,fun k l hk=>?_⟩
  unfold Xc at h4
  have hk':k∈[9,10,11,12]:=KU hk
  have h5:=List.all_eq_true.mp h4 k hk'
  rewrite [hk]at h5
  have h5:Option.elim ((Rd (nsIn K O (JY k))).bind fun a=>Gn "list" (K.lookup a)) false _=true:=h5
  cases q:(Rd (nsIn K O (JY k))).bind fun a=>Gn "list" (K.lookup a)with
  |none=>rw[q]at h5;exact ff h5
  |some vs=>
   refine q0 ?_;intro Q;rw[q]at h5
   obtain⟨a,e1,e2⟩:=Option.bind_eq_some_iff.mp q
   clear q;obtain⟨dd,items,ep,sl,el,rfl⟩:=Pv e2
   exact⟨a,items.toList,find_K h2 (Ra e1),⟨_,X _ _ el,rfl,ep,rfl⟩,fun m N=>Gq X m N h5⟩
def Q0 (C:CT)(ns:List Int):CT:=fun f ps h=>match Qr (Qm f) ps with
 |some ρ=>Af (Nd f) C ns ρ h
 |none=>none
set_option tactic.hygienic true in
theorem Ge {c:Cx}(hc:∃mg mb scr ns,c=Nx w K g mg mb scr ns)(hK:KOk w.params K)(X:K.In g)(G:Kf c)(T:Tp c){C:CT}{d:Nat}(HC:YP c d C):YP c (d+1) (Q0 C c.ns):=by
 intro A s m σ σ' f ps p vs hf AK R y h
 refine q1 c ?_;intro Q;obtain⟨mg,mb,scr,ns,rfl⟩:=hc
 unfold Q0 at h
 obtain⟨ρ,hρ,h⟩:=omL h
 ·have ar:Qm f=((Yz f).length,(Qm f).2.1,(Qm f).2.2):=by rw[←A6 hf]
  rw[ar]at hρ
  exact Ev G.toKd (RE G T HC f hf) (CE hK X hf) (Qai hf) AK R y hρ h
end
end Mine.Tactic
namespace Mine.Tactic
mutual
noncomputable def Yp (N:Nat):PV→Bool
 |.tup l=>Yc N l
 |.loc l=>Nat.blt l N
 |_=>true
noncomputable def Yc (N:Nat):List PV→Bool
 |[]=>true
 |p::ps=>Yp N p&&Yc N ps
end
def JI (N:Nat):AO→Bool
 |.lst l=>Yc N l
 |.dct es=>es.all fun e=>Yp N e.1&&Yp N e.2
 |.ins _ fs=>fs.all fun e=>Yp N e.2
def gcR (N:Nat)(r:PV×H):PV×H:=
 if(r.2.take N).all (JI N)then
  if Yp N r.1 then(r.1,r.2.take N)
  else match r.1 with
   |.loc l=>(match r.2[l]? with
    |some o=>if Nat.ble N l&&JI N o then(.loc N,r.2.take N++[o])else r
    |none=>r)
   |_=>r
 else r
section
variable {c:Cx} {m m':Mp} {N N':Nat} {h:Heap}
mutual
theorem Val.low:∀{p:PV} {v:Value},Val c m N h p v→Yp N p=true
 |.none,_,_=>rfl
 |.bool _,_,_=>rfl
 |.int _,_,_=>rfl
 |.sym _,_,_=>rfl
 |.tup l,_,x=>by
  obtain⟨_,_,_,_,x⟩:=x
  exact QD.low x
 |.loc l,_,x=>Nat.ble_eq_true_of_le x.1
 |.scr,_,_=>rfl
 |.unb,_,x=>False.elim x
theorem QD.low:∀{ps:List PV} {vs:List Value},QD c m N h ps vs→Yc N ps=true
 |[],_,_=>rfl
 |p::ps,_,x=>by
  obtain⟨v,r,_,a,b⟩:=x
  exact Bool.and_eq_true_iff.mpr ⟨Val.low a,QD.low b⟩
end
mutual
theorem Val.cut:∀{p:PV} {v:Value},Val c m N h p v→Yp N' p=true→Val c m N' h p v
 |.none,_,x,_=>x
 |.bool _,_,x,_=>x
 |.int _,_,x,_=>x
 |.sym _,_,x,_=>x
 |.tup l,_,x,e=>by
  obtain⟨a,vs,r,t,x⟩:=x
  exact⟨a,vs,r,t,QD.cut x e⟩
 |.loc l,_,x,e=>⟨Nat.le_of_ble_eq_true e,x.2⟩
 |.scr,_,x,_=>x
 |.unb,_,x,_=>False.elim x
theorem QD.cut:∀{ps:List PV} {vs:List Value},QD c m N h ps vs→Yc N' ps=true→QD c m N' h ps vs
 |[],_,x,_=>x
 |p::ps,_,x,e=>by
  obtain⟨v,r,rfl,a,b⟩:=x
  have e:=Bool.and_eq_true_iff.mp e
  exact⟨v,r,rfl,Val.cut a e.1,QD.cut b e.2⟩
end
theorem ZE.cut:∀{fs:List (Nat×PV)} {es:List DictEntry},ZE c m N h fs es→(fs.all fun e=>Yp N' e.2)=true→ZE c m N' h fs es
 |[],_,x,_=>x
 |_::r,_,x,q=>by
  obtain⟨e,es',a,b,d,v,t⟩:=x
  have q:=Bool.and_eq_true_iff.mp q
  exact⟨e,es',a,b,d,v.cut q.1,t.cut q.2⟩
theorem Prs.cut {K:Type}{kr:K→PV→Prop}:∀{es:List (PV×PV)} {kvs:List (K×Value)},Prs c m N h K kr es kvs→(es.all fun e=>Yp N' e.1&&Yp N' e.2)=true→Prs c m N' h K kr es kvs
 |[],_,x,_=>x
 |_::r,_,x,q=>by
  obtain⟨k',v,kvs',a,b,d,t⟩:=x
  have q:=Bool.and_eq_true_iff.mp q
  exact⟨k',v,kvs',a,b,d.cut (Bool.and_eq_true_iff.mp q.1).2,t.cut q.2⟩
theorem Jz.re {N₂ l l':Nat}{o:AO}(x:Jz c m N h l o)(e:JI N' o=true)(ext:m.Ext m' N')(le:N'≤N₂)(e1:m'.φ l'=m.φ l)(e2:m'.μ l'=m.μ l):Jz c m' N₂ h l' o:=by
 have tk:=YD.refl h
 cases o with
 |lst ps=>
  obtain⟨a,vs,b,y⟩:=x
  exact⟨by simp only[e1,e2,a],vs,by rw[e2];exact b,(y.cut e).mono tk ext le⟩
 |dct es=>
  obtain⟨a,d⟩:=x
  refine⟨by simp only[e1,e2,a],?_⟩
  rw[e2]
  cases d with
  |kInt kvs hd p=>exact .kInt kvs hd ((p.cut e).mono tk ext le)
  |kStr kvs hd p=>exact .kStr kvs hd ((p.cut e).mono tk ext le)
 |ins k fs=>
  obtain⟨a,es,n,b,y⟩:=x
  exact⟨by rw[e1,e2];exact a,es,n,by rw[e2];exact b,(y.cut e).mono tk ext le⟩
end
section
variable {c:Cx} {m m₁:Mp} {σ σ₁:H} {h h₁:Heap} {W:Addr→Prop}
theorem Zs {α:Type}{l:List α}{n i:Nat}{x:α}(e:(l.take n)[i]?=some x):i<n∧l[i]?=some x:=by
 refine q0 ?_;intro Q;simp only[List.getElem?_take]at e
 split at e
 ·exact⟨‹_›,e⟩
 ·cases e
theorem Stp.cut (x:Stp c W m σ h m₁ σ₁ h₁)(e:(σ₁.take σ.length).all (JI σ.length)=true):Stp c W m σ h m₁ (σ₁.take σ.length) h₁:=by
 have len:(σ₁.take σ.length).length=σ.length:=by rw[List.length_take];exact Nat.min_eq_left x.len
 refine⟨⟨x.rep.base,fun l o q=>?_,fun l hl=>x.rep.new l (Nat.lt_of_lt_of_le (len▸hl) x.len),fun a b ha hb=>x.rep.inj a b (Nat.lt_of_lt_of_le (len▸ha) x.len) (Nat.lt_of_lt_of_le (len▸hb) x.len)⟩,by rw[len];exact Nat.le_refl _,x.ext,fun l a b=>by rw[len]at b;exact o35 b a,x.keep,x.stay⟩
 obtain⟨hl,q'⟩:=Zs q
 rw[len]
 exact(x.rep.obj l o q').re (List.all_eq_true.mp e o (List.mem_of_getElem? q)) (Mp.Ext.refl _ _) (Nat.le_refl _) rfl rfl
theorem Stp.cut1 (x:Stp c W m σ h m₁ σ₁ h₁)(e:(σ₁.take σ.length).all (JI σ.length)=true){l:Nat}{o:AO}(hl:σ.length≤l)(ho:σ₁[l]?=some o)(lo:JI σ.length o=true):
  Stp c W m σ h (m₁.put σ.length (m₁.φ l) (m₁.μ l)) (σ₁.take σ.length++[o]) h₁:=by
 have len:(σ₁.take σ.length).length=σ.length:=by rw[List.length_take];exact Nat.min_eq_left x.len
 have len2:(σ₁.take σ.length++[o]).length=σ.length+1:=by simp only[List.length_append,len];rfl
 have pe:=Mp.put_ext m₁ σ.length (m₁.φ l) (m₁.μ l)
 have ll:=Qc ho
 have old:∀k,k<σ.length→(m₁.put σ.length (m₁.φ l) (m₁.μ l)).μ k=m₁.μ k:=fun k hk=>(pe k hk).2
 have cs:∀k,k<σ.length+1→∃k',k'<σ₁.length∧(m₁.put σ.length (m₁.φ l) (m₁.μ l)).μ k=m₁.μ k'∧(k<σ.length∧k'=k∨k=σ.length∧k'=l):=fun k hk=>by
  by_cases q:k=σ.length
  ·exact⟨l,ll,by rw[q,Mp.put_μ],.inr ⟨q,rfl⟩⟩
  ·have q:k<σ.length:=by omega
   exact⟨k,Nat.lt_of_lt_of_le q x.len,old k q,.inl ⟨q,rfl⟩⟩
 refine⟨⟨x.rep.base,fun k o' q=>?_,fun k hk=>?_,fun a b ha hb e=>?_⟩,by rw[len2];exact Nat.le_succ _,fun k hk=>?_,fun k a b=>?_,x.keep,x.stay⟩
 ·rw[len2]
  rcases Nat.lt_or_ge k σ.length with z|z
  ·rw[List.getElem?_append_left (by rw[len];exact z)]at q
   obtain⟨_,q'⟩:=Zs q
   exact(x.rep.obj k o' q').re (List.all_eq_true.mp e o' (List.mem_of_getElem? q)) pe (Nat.le_succ _) (pe k z).1 (pe k z).2
  ·have kl:=Qc q
   rewrite [len2]at kl
   have:k=σ.length:=by exact o168 kl z len len2
   clear kl z;subst this
   rw[List.getElem?_append_right (by rw[len];exact Nat.le_refl _),len,Nat.sub_self]at q
   cases q
   exact(x.rep.obj l o ho).re lo pe (Nat.le_succ _) (Mp.put_φ ..) (Mp.put_μ ..)
 ·simp only[len2]at hk
  obtain⟨k',a,b,_⟩:=cs k hk
  rw[b];exact x.rep.new k' a
 ·rw[len2]at ha hb
  obtain⟨a',a1,a2,a3⟩:=cs a ha
  obtain⟨b',b1,b2,b3⟩:=cs b hb
  simp only[a2,b2]at e
  have:=x.rep.inj a' b' a1 b1 e
  exact o169 hl len len2 ha a3 b3 this
 ·exact⟨(pe k hk).1.trans (x.ext k hk).1,(pe k hk).2.trans (x.ext k hk).2⟩
 ·rw[len2]at b
  have:k=σ.length:=by exact o170 b a len len2
  clear b a;subst this
  rw[Mp.put_μ];exact x.fresh l hl ll
set_option tactic.hygienic true in
theorem QF.gc {s s':Shared}{p:PV}{v:Value}(x:QF c m σ s p σ₁ v s'):QF c m σ s (gcR σ.length (p,σ₁)).1 (gcR σ.length (p,σ₁)).2 v s':=by
 obtain⟨m',h',t,e,S,y⟩:=id x
 unfold gcR
 dsimp only
 split
 ·rename_i lo
  split
  ·rename_i lp
   refine⟨m',h',t,e,S.cut lo,?_⟩
   show Val c m' (σ₁.take σ.length).length h' p v
   rw[List.length_take,Nat.min_eq_left S.len]
   exact y.cut lp
  ·split
   ·rename_i l lp
    split
    ·rename_i o ho
     split
     ·rename_i q
      simp only[Bool.and_eq_true]at q
      refine⟨_,h',t,e,S.cut1 lo (Nat.le_of_ble_eq_true q.1) ho q.2,?_⟩
      show Val c _ (σ₁.take σ.length++[o]).length h' (.loc σ.length) v
      rw[List.length_append,List.length_take,Nat.min_eq_left S.len]
      exact⟨Nat.lt_succ_self _,y.2.trans (by rw[Mp.put_φ])⟩
     ·exact x
    ·exact x
   ·exact x
 ·exact x
end
def Za (ns:List Int):Nat→CT
 |0=>fun Z Z Z=>none
 |n+1=>fun f ps h=>(Q0 (Za ns n) ns f ps h).map (gcR h.length)
theorem YP.gc {c:Cx}{d:Nat}{C:CT}(HC:YP c d C):YP c d (fun f ps h=>(C f ps h).map (gcR h.length)):=by
 intro A s m σ σ' f ps p vs hf AK R y h
 obtain⟨⟨q,σ₁⟩,e,h⟩:=Option.map_eq_some_iff.mp h
 refine codeAny_mono (HC hf AK R y e) fun r s' z=>?_
 rcases r with e'|(v|_|_|_)<;>first|exact z.elim|skip
 have:=QF.gc z
 rw[h]at this
 exact this
theorem Oa {w:World}{K:Frag}{g:Heap}{c:Cx}(hc:∃mg mb scr ns,c=Nx w K g mg mb scr ns)(hK:KOk w.params K)(X:K.In g)(G:Kf c)(T:Tp c):∀d,YP c d (Za c.ns d)
 |0=>fun Z Z Z Z Z Z Z Z Z Z Z Z Z h=>by refine q0 ?_;intro Q;cases h
 |d+1=>YP.gc (Ge hc hK X G T (Oa hc hK X G T d))
end Mine.Tactic
namespace Mine.Tactic
section
variable {c:Cx} {C:CT} {d N:Nat} {m m₁ m':Mp} {σ σ₁:H} {h h₁ h':Heap} {s s':Shared}
theorem Rep.low (R:Rep c m σ h){l:Nat}{o:AO}(e:σ[l]?=some o):JI σ.length o=true:=by
 have x:=R.obj l o e
 clear e;have fl:∀{fs:List (Nat×PV)} {es:List DictEntry},ZE c m σ.length h fs es→(fs.all fun e=>Yp σ.length e.2)=true:=by
  intro fs
  induction fs with
  |nil=>intro _ _;rfl
  |cons p r ih=>
   intro es x
   obtain⟨k,p⟩:=p
   obtain⟨e,es',a,b,d,v,t⟩:=x
   simp only[List.all_cons,Bool.and_eq_true];exact⟨v.low,ih t⟩
 cases o with
 |lst ps=>obtain⟨_,vs,_,v⟩:=x;exact v.low
 |dct es=>
  obtain⟨_,d⟩:=x
  have key:∀{K:Type} {kr:K→PV→Prop} {es:List (PV×PV)} {kvs:List (K×Value)},(∀k p,kr k p→Yp σ.length p=true)→Prs c m σ.length h K kr es kvs→(es.all fun e=>Yp σ.length e.1&&Yp σ.length e.2)=true:=by
   intro K kr es
   induction es with
   |nil=>intro _ _ _;rfl
   |cons p r ih=>
    intro kvs hk x
    obtain⟨k,p⟩:=p
    obtain⟨k',v,kvs',a,b,d,t⟩:=x
    rewrite [List.all_cons,Bool.and_eq_true,Bool.and_eq_true];exact⟨⟨hk _ _ b,d.low⟩,ih hk t⟩
  cases d with
  |kInt kvs hd p=>exact key (fun k p e=>by rw[e];rfl) p
  |kStr kvs hd p=>exact key (fun k p e=>by obtain⟨n,_,e,_⟩:=e;rw[e];rfl) p
 |ins k fs=>obtain⟨_,es,n,_,f⟩:=x;exact fl f
theorem Rep.pre (R:Rep c m σ h)(hN:N≤σ.length)(lo:(σ.take N).all (JI N)=true):Rep c m (σ.take N) h:=by
 have len:(σ.take N).length=N:=by rw[List.length_take];exact Nat.min_eq_left hN
 refine⟨R.base,fun l o q=>?_,fun l hl=>R.new l (by exact o53 hl len hN),fun a b ha hb=>R.inj a b (by exact o53 ha len hN) (by exact o53 hb len hN)⟩
 obtain⟨hl,q'⟩:=Zs q
 rw[len]
 exact(R.obj l o q').re (List.all_eq_true.mp lo o (List.mem_of_getElem? q)) (Mp.Ext.refl _ _) (Nat.le_refl _) rfl rfl
theorem Stp.back (R:Rep c m σ h)(hN:N≤σ.length)(lo:(σ.take N).all (JI N)=true)(S:Stp c W0 m (σ.take N) h m₁ σ₁ h₁)(pre:σ₁.take N=σ.take N):Stp c W0 m σ h m σ h₁∧YD h h₁:=by
 have len:(σ.take N).length=N:=by rw[List.length_take];exact Nat.min_eq_left hN
 have Rp:=R.pre hN lo
 have tk:=S.tup0 Rp
 have ext:m.Ext m₁ N:=fun l hl=>S.ext l (by rw[len];exact hl)
 have ext':m₁.Ext m N:=fun l hl=>⟨(ext l hl).1.symm,(ext l hl).2.symm⟩
 have far:∀l,l<σ.length→N≤l→∀k,k<(σ.take N).length→m.μ k≠m.μ l:=fun l hl hl' k hk q=>by
  rw[len]at hk
  have:=R.inj k l (by omega) hl q;exact o171 hk this hl' len
 refine⟨⟨⟨fun b o e=>?_,fun l o q=>?_,R.new,R.inj⟩,Nat.le_refl _,Mp.Ext.refl _ _,fun l a b=>by exact o35 b a,fun b o e n w=>?_,S.stay⟩,tk⟩
 ·exact S.rep.base b o e
 ·have hl:=Qc q
  rcases Nat.lt_or_ge l N with z|z
  ·have q':σ₁[l]?=some o:=by
    have:(σ.take N)[l]?=some o:=by rw[List.getElem?_take_of_lt z];exact q
    rw[←pre]at this
    exact(Zs this).2
   have q2:(σ.take N)[l]?=some o:=by rw[List.getElem?_take_of_lt z];exact q
   exact(S.rep.obj l o q').re (List.all_eq_true.mp lo o (List.mem_of_getElem? q2)) ext' hN (ext' l z).1 (ext' l z).2
  ·refine(R.obj l o q).keep tk (Mp.Ext.refl _ _) (Nat.le_refl _) hl (fun o e=>S.keep _ _ e (far l hl z) (fun w=>w)) (fun o e=>S.keep _ _ e (fun k hk q=>?_) (fun w=>w))
   rw[len]at hk
   exact R.phi_ne hl (by omega) (by exact o172 hk len z) q.symm
 ·exact S.keep b o e (fun l hl=>n l (by rw[len]at hl;omega)) w
theorem QF.back (R:Rep c m σ s.heap)(hN:N≤σ.length)(lo:(σ.take N).all (JI N)=true){p:PV}{v:Value}(x:QF c m (σ.take N) s p (σ.take N) v s')(lp:Yp N p=true):QF c m σ s p σ v s':=by
 obtain⟨m',h',t,e,S,y⟩:=x
 have len:(σ.take N).length=N:=by rw[List.length_take];exact Nat.min_eq_left hN
 have pre:(σ.take N).take N=σ.take N:=by rw[List.take_take,Nat.min_self]
 obtain⟨B,tk⟩:=S.back R hN lo pre
 refine⟨m,h',t,e,B,?_⟩
 have y:Val c m' (σ.take N).length h' p v:=y
 have ext':m'.Ext m N:=fun l hl=>⟨(S.ext l (by exact o33 hl len)).1.symm,(S.ext l (by exact o33 hl len)).2.symm⟩
 exact(y.cut lp).mono (YD.refl _) ext' hN
theorem QF.back1 (R:Rep c m σ s.heap)(hN:N≤σ.length)(lo:(σ.take N).all (JI N)=true){o:AO}{v:Value}(x:QF c m (σ.take N) s (.loc N) (σ.take N++[o]) v s')(lp:JI N o=true):QF c m σ s (.loc σ.length) (σ++[o]) v s':=by
 obtain⟨m',h',t,e,S,y⟩:=x
 have len:(σ.take N).length=N:=by rw[List.length_take];exact Nat.min_eq_left hN
 have pre:(σ.take N++[o]).take N=σ.take N:=by simp only[List.take_append_of_le_length (by exact o77 len),List.take_take,Nat.min_self]
 obtain⟨B,tk⟩:=S.back R hN lo pre
 have y:Val c m' (σ.take N++[o]).length h' (.loc N) v:=y
 have hNl:N<(σ.take N++[o]).length:=by simp only[List.length_append,len];exact Nat.lt_succ_self _
 have ho:(σ.take N++[o])[N]?=some o:=by simp only[List.getElem?_append_right (by exact o79 len),len,Nat.sub_self];rfl
 have fr:=S.fresh N (by exact o79 len) hNl
 have ne:∀l,l<σ.length→m.μ l≠m'.μ N:=fun l hl q=>by
  obtain⟨o',e',_⟩:=R.mut hl
  rw[q,fr]at e';cases e'
 have pe:=Mp.put_ext m σ.length (m'.φ N) (m'.μ N)
 have ext':m'.Ext (m.put σ.length (m'.φ N) (m'.μ N)) N:=fun l hl=>by
  have a:=pe l (by omega);have b:=S.ext l (by exact o33 hl len)
  exact⟨a.1.trans b.1.symm,a.2.trans b.2.symm⟩
 refine⟨m.put σ.length (m'.φ N) (m'.μ N),h',t,e,⟨⟨fun b o e=>B.rep.base b o e,fun l o' q=>?_,fun l hl=>?_,fun a b ha hb q=>?_⟩,by simp,pe,fun l a b=>?_,B.keep,B.stay⟩,?_⟩
 ·rw[List.length_append,List.length_singleton]
  rcases Nat.lt_or_ge l σ.length with z|z
  ·rewrite [List.getElem?_append_left z]at q
   exact(B.rep.obj l o' q).re (B.rep.low q) pe (Nat.le_succ _) (pe l z).1 (pe l z).2
  ·have hl:=Qc q
   rw[List.length_append,List.length_singleton]at hl
   have:l=σ.length:=by exact o44 hl z
   clear hl z;subst this
   rw[List.getElem?_append_right (Nat.le_refl _),Nat.sub_self]at q
   cases q
   exact(S.rep.obj N o ho).re lp ext' (by exact o173 len hN) (Mp.put_φ ..) (Mp.put_μ ..)
 ·rw[List.length_append,List.length_singleton]at hl
  by_cases q:l=σ.length
  ·subst q;rw[Mp.put_μ];exact S.rep.new N hNl
  ·rw[(pe l (by omega)).2];exact R.new l (by omega)
 ·simp only[List.length_append,List.length_singleton]at ha hb
  by_cases qa:a=σ.length<;>by_cases qb:b=σ.length
  ·rw[qa,qb]
  ·subst qa
   rw[Mp.put_μ,(pe b (by omega)).2]at q
   exact absurd q.symm (ne b (by omega))
  ·subst qb
   rw[Mp.put_μ,(pe a (by omega)).2]at q
   exact absurd q (ne a (by omega))
  ·rw[(pe a (by omega)).2,(pe b (by omega)).2]at q
   exact R.inj a b (by omega) (by omega) q
 ·rw[List.length_append,List.length_singleton]at b
  have:l=σ.length:=by exact o70 b a
  clear b a;subst this
  rw[Mp.put_μ];exact fr
 ·show Val c _ (σ++[o]).length h' (.loc σ.length) v
  rw[List.length_append]
  exact⟨Nat.lt_succ_self _,y.2.trans (by rw[Mp.put_φ])⟩
end
inductive WJ (C:CT) (N:Nat) (f:Nat) (ps:List PV) (h:H):PV×H→Prop
 |val {p:PV}:N≤h.length→(h.take N).all (JI N)=true→Yc N ps=true→C f ps (h.take N)=some (p,h.take N)→Yp N p=true→WJ C N f ps h (p,h)
 |new {o:AO}:N≤h.length→(h.take N).all (JI N)=true→Yc N ps=true→C f ps (h.take N)=some (.loc N,h.take N++[o])→JI N o=true→WJ C N f ps h (.loc h.length,h++[o])
theorem WJ.snd {c:Cx}{d:Nat}{C:CT}(HC:YP c d C){N f:Nat}{ps:List PV}{σ:H}{r:PV×H}(T:WJ C N f ps σ r){A:Around}{s:Shared}{m:Mp}{vs:List Value}(hf:f<NF)(AK:ZW d A)(R:Rep c m σ s.heap)(y:QD c m σ.length s.heap ps vs):
  codeAny (model c.prog c.w) A (.call (.ref (c.fnA f)) ⟨vs,[]⟩) (I4 (QF c m σ s r.1 r.2)) s:=by
 cases T with
 |val hN lo lps run lp=>
  have len:(σ.take N).length=N:=by rw[List.length_take];exact Nat.min_eq_left hN
  refine codeAny_mono (HC hf AK (R.pre hN lo) (by rw[len];exact y.cut lps) run) fun r s' z=>?_
  rcases r with e'|(v|_|_|_)<;>first|exact z.elim|skip
  exact QF.back R hN lo z lp
 |new hN lo lps run lp=>
  have len:(σ.take N).length=N:=by rw[List.length_take];exact Nat.min_eq_left hN
  refine codeAny_mono (HC hf AK (R.pre hN lo) (by rw[len];exact y.cut lps) run) fun r s' z=>?_
  rcases r with e'|(v|_|_|_)<;>first|exact z.elim|skip
  exact QF.back1 R hN lo z lp
theorem ZW.less {d d':Nat}{A:Around}(x:ZW d A)(h:d'≤d):ZW d' A:=⟨x.handled,by have:=x.depth;exact o174 this h,by have:=x.units;exact o175 this h⟩
end Mine.Tactic
namespace Mine.Tactic
theorem WJ.uniq {C:CT}{N f:Nat}{ps:List PV}{h:H}{r r':PV×H}(x:WJ C N f ps h r)(y:WJ C N f ps h r'):r=r':=by
 cases x with
 |val a1 a2 a3 a4 a5=>
  cases y with
  |val b1 b2 b3 b4 b5=>clear b5;rw[a4]at b4;cases b4;rfl
  |new b1 b2 b3 b4 b5=>
   rw[a4]at b4
   injection b4 with b4
   injection b4 with _ b4
   have:=congrArg List.length b4
   simp at this
 |new a1 a2 a3 a4 a5=>
  cases y with
  |val b1 b2 b3 b4 b5=>
   rw[a4]at b4
   injection b4 with b4
   injection b4 with _ b4
   have:=congrArg List.length b4
   simp at this
  |new b1 b2 b3 b4 b5=>
   clear b5;rw[a4]at b4
   injection b4 with b4
   injection b4 with _ b4
   have:=List.append_cancel_left b4
   clear b4;cases this
   rfl
open Classical in
def gcU (h:H)(r:PV×H):PV×H:=
 if r.2.take h.length=h then
  if Yp h.length r.1 then(r.1,h)
  else match r.1 with
   |.loc l=>(match r.2[l]? with
    |some o=>if Nat.ble h.length l&&JI h.length o then(.loc h.length,h++[o])else r
    |none=>r)
   |_=>r
 else r
theorem QF.swept {c:Cx}{m:Mp}{σ σ₁:H}{s s':Shared}{p:PV}{v:Value}(R:Rep c m σ s.heap)(x:QF c m σ s p σ₁ v s'):QF c m σ s (gcU σ (p,σ₁)).1 (gcU σ (p,σ₁)).2 v s':=by
 by_cases q:σ₁.take σ.length=σ
 ·have lo:(σ₁.take σ.length).all (JI σ.length)=true:=by
   rw[q,List.all_eq_true]
   intro o ho
   obtain⟨l,e⟩:=List.mem_iff_getElem?.mp ho
   exact R.low e
  have:gcU σ (p,σ₁)=gcR σ.length (p,σ₁):=by
   unfold gcU gcR
   dsimp only
   rewrite [if_pos q,if_pos lo,q]<;>rfl
  rw[this]
  exact x.gc
 ·unfold gcU
  rw[if_neg q]
  exact x
def OO (f:Nat):Bool:=[1,3,6,8,9,22,47,48].any (Nat.beq f)
def Jb (f:Nat):Bool:=OO f||Nat.beq f 44
open Classical in
def Qb (ns:List Int):Nat→CT
 |0=>fun Z Z Z=>none
 |n+1=>fun f ps h=>
  if OO f=true then
   if e:∃r,WJ (Za ns 30) 0 f ps h r then some e.choose
   else if e:∃r,WJ (Za ns 30) 32 f ps h r then some e.choose
   else none
  else if f=44 then(Q0 (Qb ns n) ns f ps h).map (gcR h.length)
  else(Q0 (Qb ns n) ns f ps h).map (gcU h)
section
variable {ns:List Int} {n f:Nat} {ps:List PV} {h:H} {r:PV×H}
theorem WJ.lows {C:CT}{N:Nat}(T:WJ C N f ps h r):Yc N ps=true:=by cases T<;>assumption
theorem HP (k:OO f=true)(T:WJ (Za ns 30) 0 f ps h r):Qb ns (n+1) f ps h=some r:=by
 refine(if_pos k).trans ((dif_pos ⟨r,T⟩).trans ?_)
 have:=(⟨r,T⟩:∃r,WJ (Za ns 30) 0 f ps h r).choose_spec
 rw[this.uniq T]
theorem Gy (k:OO f=true)(lo:Yc 0 ps=false)(T:WJ (Za ns 30) 32 f ps h r):Qb ns (n+1) f ps h=some r:=by
 refine(if_pos k).trans ((dif_neg (fun x=>by obtain⟨r,T⟩:=x;exact ff (lo.symm.trans T.lows))).trans ((dif_pos ⟨r,T⟩).trans ?_))
 have:=(⟨r,T⟩:∃r,WJ (Za ns 30) 32 f ps h r).choose_spec
 rw[this.uniq T]
theorem N8 (k:Jb f=false):Qb ns (n+1) f ps h=(Q0 (Qb ns n) ns f ps h).map (gcU h):=by
 unfold Jb at k
 rw[Bool.or_eq_false_iff]at k
 show(if OO f=true then _ else if f=44 then _ else(Q0 (Qb ns n) ns f ps h).map (gcU h))=_
 rw[if_neg (by rw[k.1];simp),if_neg (fun e=>by rw[e]at k;exact absurd k.2 (by decide))]
theorem Ka:Qb ns (n+1) 44 ps h=(Q0 (Qb ns n) ns 44 ps h).map (gcR h.length):=rfl
theorem ifE {α:Type}{c:Prop}{_:Decidable c}{x y:Option α}{r:α}{G:Prop}(h:(if c then x else y)=some r)(a:x=some r→G)(b:y=some r→G):G:=by
 by_cases q:c
 ·rw[if_pos q]at h;exact a h
 ·rw[if_neg q]at h;exact b h
theorem chE {α:Type}{P:α→Prop}{_:Decidable (∃r,P r)}{x:Option α}{r:α}{G:Prop}(h:(if e:∃r,P r then some e.choose else x)=some r)(a:P r→G)(b:x=some r→G):G:=by
 by_cases q:∃r,P r
 ·rw[dif_pos q]at h;exact a (Option.some.inj h▸q.choose_spec)
 ·rw[dif_neg q]at h;exact b h
theorem Lb (e:Qb ns (n+1) f ps h=some r):(∃N,WJ (Za ns 30) N f ps h r)∨(Q0 (Qb ns n) ns f ps h).map (gcR h.length)=some r∨(Q0 (Qb ns n) ns f ps h).map (gcU h)=some r:=
 ifE e (fun e=>chE e (fun T=>.inl ⟨_,T⟩) fun e=>chE e (fun T=>.inl ⟨_,T⟩) fo) fun e=>ifE e (fun e=>.inr (.inl e)) fun e=>.inr (.inr e)
theorem Hw {w:World}{K:Frag}{g:Heap}{c:Cx}(hc:∃mg mb scr ns,c=Nx w K g mg mb scr ns)(hK:KOk w.params K)(X:K.In g)(G:Kf c)(T:Tp c){d:Nat}(ih0:YP c (d+30) (Qb c.ns d)):YP c (d+30+1) (Qb c.ns (d+1)):=by
 intro A s m σ σ' f ps p vs hf AK R y h
 have ih:YP c (d+30+1) (Q0 (Qb c.ns d) c.ns):=Ge hc hK X G T ih0
 have c30:YP c 30 (Za c.ns 30):=Oa hc hK X G T 30
 rcases Lb h with ⟨N,T⟩|h|h
 ·exact T.snd c30 hf (AK.less (by omega)) R y
 ·obtain⟨⟨q,σ₁⟩,e,h⟩:=Option.map_eq_some_iff.mp h
  refine codeAny_mono (ih hf AK R y e) fun r s' z=>?_
  rcases r with e'|(v|_|_|_)<;>first|exact z.elim|skip
  have:=QF.gc z
  rw[h]at this
  exact this
 ·obtain⟨⟨q,σ₁⟩,e,h⟩:=Option.map_eq_some_iff.mp h
  refine codeAny_mono (ih hf AK R y e) fun r s' z=>?_
  rcases r with e'|(v|_|_|_)<;>first|exact z.elim|skip
  have:=QF.swept R z
  rw[h]at this
  exact this
theorem Os {w:World}{K:Frag}{g:Heap}{c:Cx}(hc:∃mg mb scr ns,c=Nx w K g mg mb scr ns)(hK:KOk w.params K)(X:K.In g)(G:Kf c)(T:Tp c):∀d,YP c (d+30) (Qb c.ns d)
 |0=>fun Z Z Z Z Z Z Z Z Z Z Z Z Z h=>by refine q0 ?_;intro Q;cases h
 |d+1=>by
  have:YP c (d+30+1) (Qb c.ns (d+1)):=Hw hc hK X G T (Os hc hK X G T d)
  rw[show d+1+30=d+30+1 by exact o176]
  exact this
theorem CL {p:PV}{X:H}(lo:Jb f=false)(e:Q0 (Qb ns n) ns f ps h=some (p,h++X))(lp:Yp h.length p=true):Qb ns (n+1) f ps h=some (p,h):=by
 simp only[N8 lo,e,Option.map_some]
 unfold gcU
 dsimp only
 rw[List.take_left,if_pos rfl,if_pos lp]
theorem AE {i:Nat}{o:AO}{X:H}(lo:Jb f=false)(e:Q0 (Qb ns n) ns f ps h=some (.loc (h.length+i),h++X))(ho:X[i]?=some o)(lp:JI h.length o=true):Qb ns (n+1) f ps h=some (.loc h.length,h++[o]):=by
 simp only[N8 lo,e,Option.map_some]
 unfold gcU
 have g:(h++X)[h.length+i]?=some o:=by rw[List.getElem?_append_right (Nat.le_add_right _ _),Nat.add_sub_cancel_left];exact ho
 have nl:Yp h.length (.loc (h.length+i))=false:=by
  show Nat.blt _ _=false
  cases q:Nat.blt (h.length+i) h.length with
  |false=>rfl
  |true=>exact absurd (Nat.le_of_ble_eq_true q) (Nat.not_le.mpr (Nat.lt_succ_of_le (Nat.le_add_right _ _)))
 dsimp only
 rewrite [List.take_left,if_pos rfl,nl,if_neg (by simp),g]
 dsimp only
 rw[if_pos (by rewrite [Bool.and_eq_true];exact⟨Nat.ble_eq_true_of_le (Nat.le_add_right _ _),lp⟩)]
end
end Mine.Tactic
namespace Mine.Tactic
def Di:Prop:=∀ns:List Int,ns.length≤63→∃d σ,d≤70∧Qb ns d 76 [.scr] []=some (.bool true,σ)
theorem R1 (PL:Di){w:World}{K:Frag}{s₀ s₁:Shared}{mg mb:Str→Option Value}{fa scr:Addr}{vs:List Value}{ns:List Int}(hK:KOk w.params K)(X:K.In s₁.heap)(hg:s₁.heap.Ns mainGlobals mg)(hb:s₁.heap.Ns builtinsNs mb)(hl:s₁.heap.NoLimit)
  (hblt:∀x:Str,x≠"__name__"→mb x=bootBuiltins x) (seer:s₁.heap.NoSeer) (hgen:s₁.gens=#[]) (hfa:mg (ofString "law")=some (.ref fa)) (hs:s₁.heap.IsList scr vs.toArray) (hI:IntsAre vs ns) (hn:ns.length≤63):
  wpAny (model PySem.Challenge.pw_pq0728_01 w) callerA (call (.ref fa) [.ref scr]) (fun v s'=>GoodWG PySem.Challenge.rw_pq0728_01.row.claim (classAt s₀.heap) (ExcName.means s₀.heap) [ofPy (PyData.list (ns.map PyData.int))] s₁ (Except.ok (Flow.ret v)) s')
   (fun e s'=>GoodWG PySem.Challenge.rw_pq0728_01.row.claim (classAt s₀.heap) (ExcName.means s₀.heap) [ofPy (PyData.list (ns.map PyData.int))] s₁ (Except.error e) s') s₁:=by
 refine q1 fa ?_;intro Q;have big:∃o,s₁.heap.get? sysModules=some o:=by obtain⟨mm,⟨o,_,_,e,_⟩,_⟩:=seer.mods;exact⟨o,e⟩
 have G:Kf (Nx w K s₁.heap mg mb scr ns):=Cu hK X hg hb hl hblt big ⟨vs,hs,hI⟩ hn
 have T:Tp (Nx w K s₁.heap mg mb scr ns):=AX hK X hg
 obtain⟨d,σ,hd,hrun⟩:=PL ns hn
 have HC:YP (Nx w K s₁.heap mg mb scr ns) (d+30) (Qb ns d):=Os (c:=Nx w K s₁.heap mg mb scr ns) ⟨mg,mb,scr,ns,rfl⟩ hK X G T d
 have efa:fa=Yn 76:=by
  have:=T.fn (ofString "law",76) (List.mem_of_getElem? (i:=ZM.length - 1) rfl)
  rw[show(Nx w K s₁.heap mg mb scr ns).mg=mg from rfl,hfa]at this
  injection this with this
  injection this
 clear hfa;subst efa
 have R:Rep (Nx w K s₁.heap mg mb scr ns) ⟨fun Z=>0,fun Z=>0⟩ [] s₁.heap:=⟨fun Z Z e=>e,fun l o e=>by simp at e,fun l h=>absurd h (Nat.not_lt_zero _),fun l Z h=>absurd h (Nat.not_lt_zero _)⟩
 have AK:ZW (d+30) callerA:=⟨rfl,by show 1+claimMargin+3*(d+30)+2≤recursionLimit;delta claimMargin recursionLimit;exact o177 hd,by show 4+40*(d+30)+80≤cLine;unfold cLine;exact o178 hd⟩
 refine wpAny_call (codeAny_mono (HC (f:=76) (ps:=[.scr]) (vs:=[.ref scr]) (by decide) AK R ?_ hrun) fun r s' z=>?_)
 ·exact⟨_,_,rfl,by rfl,rfl⟩
 ·refine q2 r s' ?_;intro Q;rcases r with e|(v|_|_|_)<;>first|exact z.elim|skip
  obtain⟨m',h',t,rfl,S,hv⟩:=z
  subst hv
  refine GoodW.toG ⟨.inl ⟨_,_,[],rfl,fun Z=>rfl,.bool true,?_,fun Z=>⟨List.nodup_nil,fun Z h=>by cases h⟩⟩,fun b o e=>S.keep b o e (fun l h=>absurd h (Nat.not_lt_zero _)) (fun w=>w),rfl,hgen⟩
  exact postW_of (by wrow_shape) (by wtm_val) (by w_fin)
end Mine.Tactic
namespace Mine.Tactic
def Oe (n:Nat)(p:PV)(a:Bool)(l:Nat):AO:=.ins 5 [(30,.sym n),(31,.loc l),(32,p),(33,.bool a),(34,.bool false),(35,.loc (l+1))]
def kOf (w:Nat):PV:=.tup [.sym 0,.sym w,.tup []]
def fOf (n:Nat):PV:=.tup [.sym 2,.sym n]
def nul:AO:=.lst []
def KH (a b:Int):H:=
 [.lst [.int a,.int b],.ins 6 [(36,.loc 6)],nul,Oe 9 .none true 4,nul,nul,
  .dct [(.sym 9,.loc 3),(.sym 13,.loc 9),(.sym 14,.loc 14),(.sym 12,.loc 19),(.sym 10,.loc 24),(.sym 11,.loc 29)],nul,nul,
  Oe 13 (kOf 9) true 10,nul,nul,nul,nul,
  Oe 14 (kOf 9) true 15,nul,nul,nul,nul,
  Oe 12 (kOf 9) true 20,nul,nul,nul,nul,
  Oe 10 (kOf 12) false 25,nul,nul,nul,nul,
  Oe 11 (kOf 12) false 30,nul,nul]
def AY (cs:List PV):PV:=.tup [.sym 1,.tup cs,.none]
def Ql (n:Nat)(ws:List Nat):PV:=AY (fOf n::ws.map kOf)
def KI (h:H):Prop:=32≤h.length∧∃a b,h.take 32=KH a b
section
variable {ns:List Int} {n f:Nat} {ps:List PV} {h:H} {p:PV} {o:AO}
theorem t0v (hn:1≤n)(k:OO f=true)(e:Za ns 30 f ps []=some (p,[]))(l1:Yc 0 ps=true)(l2:Yp 0 p=true):Qb ns n f ps h=some (p,h):=by
 obtain⟨d,rfl⟩:∃d,n=d+1:=⟨n - 1,by omega⟩
 exact HP k (.val (Nat.zero_le _) rfl l1 e l2)
theorem t0n (hn:1≤n)(k:OO f=true)(e:Za ns 30 f ps []=some (.loc 0,[o]))(l1:Yc 0 ps=true)(l2:JI 0 o=true):Qb ns n f ps h=some (.loc h.length,h++[o]):=by
 obtain⟨d,rfl⟩:∃d,n=d+1:=⟨n - 1,by omega⟩
 exact HP k (.new (Nat.zero_le _) rfl l1 e l2)
theorem Fu (hn:1≤n)(k:OO f=true)(K:KI h)(e:∀a b,Za ns 30 f ps (KH a b)=some (p,KH a b))(l0:Yc 0 ps=false)(l1:Yc 32 ps=true)(l2:Yp 32 p=true):Qb ns n f ps h=some (p,h):=by
 refine q1 n ?_;intro Q;obtain⟨k',a,b,t⟩:=K
 obtain⟨d,rfl⟩:∃d,n=d+1:=⟨n - 1,by omega⟩
 exact Gy k l0 (.val k' (by rw[t];rfl) l1 (by rw[t];exact e a b) l2)
theorem RK (hn:1≤n)(k:OO f=true)(K:KI h)(e:∀a b,Za ns 30 f ps (KH a b)=some (.loc 32,KH a b++[o]))(l0:Yc 0 ps=false)(l1:Yc 32 ps=true)(l2:JI 32 o=true):Qb ns n f ps h=some (.loc h.length,h++[o]):=by
 refine q1 n ?_;intro Q;obtain⟨k',a,b,t⟩:=K
 obtain⟨d,rfl⟩:∃d,n=d+1:=⟨n - 1,by omega⟩
 exact Gy k l0 (.new k' (by rw[t];rfl) l1 (by rw[t];exact e a b) l2)
theorem A0 (hn:1≤n)(w:Nat):Qb ns n 3 [kOf w] h=some (.loc h.length,h++[.lst []]):=t0n hn rfl (by kernel_rfl) rfl rfl
theorem Qab (hn:1≤n)(m w:Nat):Qb ns n 3 [Ql m [w]] h=some (.loc h.length,h++[.lst []]):=t0n hn rfl (by kernel_rfl) rfl rfl
theorem CY (hn:1≤n)(m w v:Nat):Qb ns n 3 [Ql m [w,v]] h=some (.loc h.length,h++[.lst []]):=t0n hn rfl (by kernel_rfl) rfl rfl
theorem QaK (hn:1≤n)(m w:Nat):Qb ns n 22 [Ql m [w]] h=some (.loc h.length,h++[.lst []]):=t0n hn rfl (by kernel_rfl) rfl rfl
theorem QaC (hn:1≤n)(m w v:Nat):Qb ns n 22 [Ql m [w,v]] h=some (.loc h.length,h++[.lst []]):=t0n hn rfl (by kernel_rfl) rfl rfl
theorem CD (hn:1≤n)(w:Nat):Qb ns n 8 [kOf w] h=some (.bool false,h):=t0v hn rfl (by kernel_rfl) rfl rfl
theorem Qbn (hn:1≤n)(m:Nat):Qb ns n 8 [fOf m] h=some (.bool false,h):=t0v hn rfl (by kernel_rfl) rfl rfl
theorem QaW (hn:1≤n):Qb ns n 8 [QS] h=some (.bool true,h):=t0v hn rfl (by kernel_rfl) rfl rfl
theorem QbO (hn:1≤n)(m w:Nat):Qb ns n 8 [Ql m [w]] h=some (.bool false,h):=t0v hn rfl (by kernel_rfl) rfl rfl
theorem QaZ (hn:1≤n)(m w v:Nat):Qb ns n 8 [Ql m [w,v]] h=some (.bool false,h):=t0v hn rfl (by kernel_rfl) rfl rfl
theorem KZ (hn:1≤n)(m w:Nat):Qb ns n 9 [Ql m [w]] h=some (.none,h):=t0v hn rfl (by kernel_rfl) rfl rfl
theorem L6 (hn:1≤n)(m w v:Nat):Qb ns n 9 [Ql m [w,v]] h=some (.none,h):=t0v hn rfl (by kernel_rfl) rfl rfl
theorem Qa8 (hn:1≤n)(w:Nat):Qb ns n 6 [kOf w] h=some (.loc h.length,h++[.lst [kOf w]]):=t0n hn rfl (by kernel_rfl) rfl rfl
theorem QbI (hn:1≤n)(m w:Nat):Qb ns n 6 [Ql m [w]] h=some (.loc h.length,h++[.lst [Ql m [w]]]):=t0n hn rfl (by kernel_rfl) rfl rfl
theorem Qaq (hn:1≤n)(m w v:Nat):Qb ns n 6 [Ql m [w,v]] h=some (.loc h.length,h++[.lst [Ql m [w,v]]]):=t0n hn rfl (by kernel_rfl) rfl rfl
def GH:Nat→List Nat
 |10=>[10,12,9]
 |11=>[11,12,9]
 |12=>[12,9]
 |_=>[9]
theorem Xn (hn:1≤n)(K:KI h):Qb ns n 47 [.loc 1,kOf 10] h=some (.loc h.length,h++[.lst ((GH 10).map kOf)]):=RK hn rfl K (fun a b=>by kernel_rfl) rfl rfl rfl
theorem Xs (hn:1≤n)(K:KI h):Qb ns n 47 [.loc 1,kOf 11] h=some (.loc h.length,h++[.lst ((GH 11).map kOf)]):=RK hn rfl K (fun a b=>by kernel_rfl) rfl rfl rfl
theorem AS (hn:1≤n)(K:KI h):Qb ns n 47 [.loc 1,kOf 12] h=some (.loc h.length,h++[.lst ((GH 12).map kOf)]):=RK hn rfl K (fun a b=>by kernel_rfl) rfl rfl rfl
theorem Qbf (hn:1≤n)(K:KI h):Qb ns n 47 [.loc 1,kOf 9] h=some (.loc h.length,h++[.lst ((GH 9).map kOf)]):=RK hn rfl K (fun a b=>by kernel_rfl) rfl rfl rfl
end
end Mine.Tactic
namespace Mine.Tactic
theorem Qv {α β:Type}{x:R α}{f:α→H→R β}{a:α}{h:H}{r:R β}(e:x=some (a,h))(k:f a h=r):Qp x f=r:=by rw[e];exact k
section
variable {C:CT} {ns:List Int} {ρ ρ' ρ₁:Lc} {h h' h₁ h₂ h₃:H} {p q r v:PV} {ps qs:List PV} {es:List EX} {a b e:EX} {x y:Bool}
theorem Qe {o:AO}:(h++[o])[h.length]?=some o:=by rewrite [List.getElem?_append_right (Nat.le_refl _),Nat.sub_self];rfl
theorem Qf {l:Nat}{o:AO}{X:H}(e:h[l]?=some o):(h++X)[l]?=some o:=by rw[List.getElem?_append_left (Qc e)];exact e
def Y0 (h:H)(l:Nat)(o:AO)(h':H):Prop:=h.set l o=h'
theorem N3 {o o':AO}:Y0 (h++[o]) h.length o' (h++[o']):=by unfold Y0;rw[List.set_append_right _ _ (Nat.le_refl _),Nat.sub_self];rfl
theorem Fq {l:Nat}{o o' b:AO}(e:h[l]?=some o)(s:Y0 h l o' h'):Y0 (h++[b]) l o' (h'++[b]):=by unfold Y0 at*;rw[List.set_append_left _ _ (Qc e),s]
theorem Ky {l:Nat}{o:AO}:Y0 h l o (h.set l o):=rfl
def Ext (h h':H):Prop:=∃X,h'=h++X
theorem Ext.refl:Ext h h:=⟨[],by simp⟩
theorem Ext.snoc {o:AO}(x:Ext h h'):Ext h (h'++[o]):=let ⟨X,e⟩:=x;⟨X++[o],by simp only[e,List.append_assoc]⟩
theorem Ext.app {X:H}(x:Ext h h'):Ext h (h'++X):=let ⟨Y,e⟩:=x;⟨Y++X,by simp only[e,List.append_assoc]⟩
theorem Ext.trans (x:Ext h h')(y:Ext h' h₁):Ext h h₁:=let ⟨X,e⟩:=x;let ⟨Y,e'⟩:=y;⟨X++Y,by simp only[e',e,List.append_assoc]⟩
theorem Ext.le (x:Ext h h'):h.length≤h'.length:=let ⟨X,e⟩:=x;by rw[e];simp
theorem Ext.get (x:Ext h h'){l:Nat}{o:AO}(e:h[l]?=some o):h'[l]?=some o:=let ⟨_,q⟩:=x;q▸Qf e
theorem KI.ext (K:KI h)(x:Ext h h'):KI h':=by
 obtain⟨X,rfl⟩:=x
 obtain⟨k,a,b,t⟩:=K
 refine⟨by rw[List.length_append];exact o179 k,a,b,?_⟩
 rw[List.take_append_of_le_length k];exact t
theorem Es:QT C ns ρ h=some (.none,h):=rfl
theorem Vn {x:Bool}:YH x C ns ρ h=some (.bool x,h):=rfl
theorem Zg {i:Int}:Qj i C ns ρ h=some (.int i,h):=rfl
theorem LW {n:Nat}:Qs n C ns ρ h=some (.sym n,h):=rfl
theorem A9:JF p C ns ρ h=some (p,h):=rfl
theorem gdT {α:Type}{b:Bool}{x y:Option α}(k:b=true)(e:x=y):gd b x=y:=by rw[k];exact e
theorem OR {α:Type}{x y:Option α}{r:α}(e:x=some r):alt x y=some r:=by rw[e];rfl
theorem WV {α:Type}{x y z:Option α}(e:x=none)(f:y=z):alt x y=z:=by rw[e];exact f
theorem YM {i:Nat}(e:Ya ρ i=p)(k:J4 p=true):Qa i C ns ρ h=some (p,h):=by
 unfold Qa;rw[e];clear e;cases p<;>first|rfl|cases k
theorem JE:Jg [] C ns ρ h=some ([],h):=rfl
theorem Yd (e1:e C ns ρ h=some (p,h₁))(e2:Jg es C ns ρ h₁=some (ps,h₂)):Jg (e::es) C ns ρ h=some (p::ps,h₂):=
 Qv e1 (Qv e2 rfl)
theorem FV (e:Jg es C ns ρ h=some (ps,h₁))(k:QG ps=true):QK es C ns ρ h=some (.tup ps,h₁):=by
 exact Qv e (gdT k rfl)
theorem MC (e:Jg es C ns ρ h=some (ps,h₁))(k:QG ps=true):QE es C ns ρ h=some (.loc h₁.length,h₁++[.lst ps]):=by
 exact Qv e (gdT k rfl)
theorem Sr:Zc C ns ρ h=some (.loc h.length,h++[.dct []]):=rfl
theorem Z6 {f:PV→H→R PV}(e1:a C ns ρ h=some (p,h₁))(k:f p h₁=some (v,h₂)):op1 f a C ns ρ h=some (v,h₂):=by
 show Qp _ _=_;rw[e1];exact k
theorem Y2 {f:PV→PV→H→R PV}(e1:a C ns ρ h=some (p,h₁))(e2:b C ns ρ h₁=some (q,h₂))(k:f p q h₂=some (v,h₃)):op2 f a b C ns ρ h=some (v,h₃):=
 Qv e1 (Qv e2 k)
theorem XG (e1:a C ns ρ h=some (p,h₁))(e2:b C ns ρ h₁=some (q,h₂))(k:eqV h₂ EQ p q=some x):eEq a b C ns ρ h=some (.bool x,h₂):=Y2 (f:=eqO) e1 e2 (by delta eqO WN;rw[k])
theorem T4 (e1:a C ns ρ h=some (p,h₁))(e2:b C ns ρ h₁=some (q,h₂))(k:eqV h₂ EQ p q=some x):eNe a b C ns ρ h=some (.bool (!x),h₂):=Y2 (f:=neO) e1 e2 (by delta neO WN;rw[k];rfl)
theorem Bl (e1:a C ns ρ h=some (p,h₁))(e2:b C ns ρ h₁=some (q,h₂))(k:Dp p q h₂=some (v,h₃)):Qi a b C ns ρ h=some (v,h₃):=Y2 e1 e2 k
theorem QaN (e1:a C ns ρ h=some (p,h₁))(e2:b C ns ρ h₁=some (q,h₂))(k:inV p q h₂=some x):eIn a b C ns ρ h=some (.bool x,h₂):=Y2 (f:=inO) e1 e2 (by delta inO WN;rw[k])
theorem T6 (e1:a C ns ρ h=some (p,h₁))(e2:b C ns ρ h₁=some (q,h₂))(k:inV p q h₂=some x):Zz a b C ns ρ h=some (.bool (!x),h₂):=Y2 (f:=I6) e1 e2 (by delta I6 WN;rw[k];rfl)
theorem Hf {k c l:Nat}{fs:List (Nat×PV)}(e1:a C ns ρ h=some (.loc l,h₁))(e2:h₁[l]?=some (.ins c fs))(e3:ZV c k=true)(e4:Z9 k fs=some v):Qk a k C ns ρ h=some (v,h₁):=
 Z6 (f:=Kc k) e1 ((By e2).trans (gdT e3 (by rw[e4];rfl)))
theorem Wu {f:Nat}(e1:Jg es C ns ρ h=some (ps,h₁))(e2:C f ps h₁=some (v,h₂)):Qn f es C ns ρ h=some (v,h₂):=by
 show Qp _ _=_;rw[e1];exact e2
theorem O5 {k c l f:Nat}{fs:List (Nat×PV)}(e1:a C ns ρ h=some (.loc l,h₁))(e2:h₁[l]?=some (.ins c fs))(e3:Z9 k fs=none)(e4:GB c k=some f)(e5:Jg es C ns ρ h₁=some (ps,h₂))(e6:C f (.loc l::ps) h₂=some (v,h₃)):Qx a k es C ns ρ h=some (v,h₃):=by
 have hc:M5 k (.loc l) h₁=some c:=(By e2).trans (gdT (by rw[e3];rfl) rfl)
 show Qp _ _=_;simp only[e1];show(match M5 k (.loc l) h₁ with|some c=>(match GB c k with|some f=>Qp _ _|none=>none)|none=>none)=_
 simp only[hc,e4];rw[e5];exact e6
theorem Fy {c mi:Nat}(e1:Jg es C ns ρ h=some (ps,h₁))(e2:GR c=some mi)(e3:C mi (.loc h₁.length::ps) (h₁++[.ins c []])=some (.none,h₂)):Jl c es C ns ρ h=some (.loc h₁.length,h₂):=by
 show Qp _ _=_;simp only[e1];show(match GR c with|some mi=>Qp _ _|none=>none)=_
 simp only[e2];rw[e3];rfl
theorem Qbu {t:TX}(e1:t C ns ρ h=some (x,h₁))(e2:(cond x a b) C ns ρ h₁=some (v,h₂)):eIf t a b C ns ρ h=some (v,h₂):=by
 show Qp _ _=_;rw[e1];clear e1;cases x<;>exact e2
theorem XT (e1:e C ns ρ h=some (.bool x,h₁)):tE e C ns ρ h=some (x,h₁):=by
 show Qp _ _=_;rw[e1];rfl
theorem XF {t:TX}(e1:t C ns ρ h=some (x,h₁)):ZO t C ns ρ h=some (!x,h₁):=
 Qv e1 rfl
theorem Sp:Yk [] C ns ρ h=some (true,h):=rfl
def EF (x:Bool)(ts:List TX)(C:CT)(ns:List Int)(ρ:Lc)(h:H):R Bool:=match x with
 |true=>Yk ts C ns ρ h
 |false=>some (false,h)
theorem Ys {t:TX}{ts:List TX}(e1:t C ns ρ h=some (x,h₁))(e2:EF x ts C ns ρ h₁=some (y,h₂)):Yk (t::ts) C ns ρ h=some (y,h₂):=by
 show Qp _ _=_;rw[e1];clear e1;cases x<;>exact e2
theorem VF:tOr [] C ns ρ h=some (false,h):=rfl
def orK (x:Bool)(ts:List TX)(C:CT)(ns:List Int)(ρ:Lc)(h:H):R Bool:=match x with
 |false=>tOr ts C ns ρ h
 |true=>some (true,h)
theorem KM {t:TX}{ts:List TX}(e1:t C ns ρ h=some (x,h₁))(e2:orK x ts C ns ρ h₁=some (y,h₂)):tOr (t::ts) C ns ρ h=some (y,h₂):=by
 show Qp _ _=_;rw[e1];clear e1;cases x<;>exact e2
theorem XE (e1:e C ns ρ h=some (p,h₁)):WQ [e] C ns ρ h=some (p,h₁):=e1
theorem Cv {e':EX}(e1:e C ns ρ h=some (.bool x,h₁))(e2:(cond x (WQ (e'::es) C ns ρ h₁) (some (.bool false,h₁)))=some (v,h₂)):WQ (e::e'::es) C ns ρ h=some (v,h₂):=by
 show Qp _ _=_;rw[e1];clear e1;cases x<;>exact e2
theorem AT (e1:e C ns ρ h=some (p,h₁)):eOr [e] C ns ρ h=some (p,h₁):=e1
theorem QaA {e':EX}(e1:e C ns ρ h=some (.bool x,h₁))(e2:(cond x (some (.bool true,h₁)) (eOr (e'::es) C ns ρ h₁))=some (v,h₂)):eOr (e::e'::es) C ns ρ h=some (v,h₂):=by
 show Qp _ _=_;rw[e1];clear e1;cases x<;>exact e2
theorem KD {l:Nat}(e1:a C ns ρ h=some (.loc l,h₁))(e2:h₁[l]?=some (.lst ps))(e3:b C ns ρ h₁=some (q,h₂))(e4:h₂[l]?=some (.lst qs))(k:QG qs=true)(s:Y0 h₂ l (.lst (qs++[q])) h₃):Q8 a b C ns ρ h=some (.none,h₃):=by
 show Qp _ _=_;rw[e1]
 show(match Jo (.loc l) h₁ with|true=>Qp _ _|false=>none)=_
 have:Jo (.loc l) h₁=true:=congrArg Option.isSome (Yj e2)
 rw[this];dsimp only;rw[e3]
 show J8 (.loc l) q h₂=_
 exact(Yj e4).trans (gdT k (by rw[←s];rfl))
theorem Kp {l m:Nat}{rs:List PV}(e1:a C ns ρ h=some (.loc l,h₁))(e2:h₁[l]?=some (.lst ps))(e3:b C ns ρ h₁=some (.loc m,h₂))(ne:Nat.beq l m=false)(e4:h₂[l]?=some (.lst qs))(e5:h₂[m]?=some (.lst rs))(k:QG qs=true)(k':QG rs=true)(s:Y0 h₂ l (.lst (qs++rs)) h₃):J3 a b C ns ρ h=some (.none,h₃):=by
 show Qp _ _=_;rw[e1]
 show(match Jo (.loc l) h₁ with|true=>Qp _ _|false=>none)=_
 have:Jo (.loc l) h₁=true:=congrArg Option.isSome (Yj e2)
 rw[this];dsimp only;rw[e3]
 show Iw (.loc l) (.loc m) h₂=_
 exact(Yj e4).trans ((Yj e5).trans (gdT (by rw[ne,k,k'];rfl) (by rw[←s];rfl)))
theorem AI {l:Nat}(e1:a C ns ρ h=some (.loc l,h₁))(e2:h₁[l]?=some (.lst ps))(k:QG ps=true)(e3:ps.getLast?=some v)(s:Y0 h₁ l (.lst ps.dropLast) h₂):IW a C ns ρ h=some (v,h₂):=
 Z6 (f:=RH) e1 ((Yj e2).trans (gdT k (by rewrite [e3,←s];rfl)))
def TM (fl:Fl)(ss:List SX)(C:CT)(ns:List Int)(ρ:Lc)(h:H):R (Fl×Lc):=match fl with
 |.nxt=>QN ss C ns ρ h
 |_=>some ((fl,ρ),h)
variable {fl fl':Fl} {s:SX} {ss A B:List SX}
theorem W7:QN [] C ns ρ h=some ((.nxt,ρ),h):=rfl
theorem Qt (e1:s C ns ρ h=some ((fl,ρ₁),h₁))(e2:TM fl ss C ns ρ₁ h₁=some ((fl',ρ'),h₂)):QN (s::ss) C ns ρ h=some ((fl',ρ'),h₂):=by
 show Qp _ _=_;rw[e1];clear e1;cases fl<;>exact e2
theorem Q2 (e:QN ss C ns ρ h=some ((fl,ρ'),h₂)):TM .nxt ss C ns ρ h=some ((fl,ρ'),h₂):=e
theorem BW:TM (.ret p) ss C ns ρ h=some ((.ret p,ρ),h):=rfl
theorem Qbi:TM .cnt ss C ns ρ h=some ((.cnt,ρ),h):=rfl
theorem K7 (e1:e C ns ρ h=some (p,h₁)):sExp e C ns ρ h=some ((.nxt,ρ),h₁):=by show Qp _ _=_;rw[e1];rfl
theorem NB (e1:e C ns ρ h=some (p,h₁)):QA e C ns ρ h=some ((.ret p,ρ),h₁):=by show Qp _ _=_;rw[e1];rfl
theorem AC:DF C ns ρ h=some ((.cnt,ρ),h):=rfl
theorem Cl {i:Nat}(e1:e C ns ρ h=some (p,h₁)):sSet i e C ns ρ h=some ((.nxt,QW ρ i p),h₁):=by show Qp _ _=_;rw[e1];rfl
theorem Eg {is:List Nat}(e1:e C ns ρ h=some (.tup ps,h₁))(e2:Yx is ps ρ=some ρ'):sSetT is e C ns ρ h=some ((.nxt,ρ'),h₁):=
 Qv e1 (by show(match Yx is ps ρ with|some ρ=>_|none=>none)=_;rw[e2])
theorem ST {k c l:Nat}{fs:List (Nat×PV)}(e1:e C ns ρ h=some (v,h₁))(e2:a C ns ρ h₁=some (.loc l,h₂))(e3:h₂[l]?=some (.ins c fs))(e4:(Nat.ble fs.length 30&&ZV c k)=true)(s:Y0 h₂ l (.ins c (Ba k v fs)) h₃):sAttr a k e C ns ρ h=some ((.nxt,ρ),h₃):=by
 refine Qv e1 (Qv e2 ?_)
 have:Ji (.loc l) k v h₂=some h₃:=(By e3).trans (gdT e4 (by rw[←s];rfl))
 show(match Ji (.loc l) k v h₂ with|some h=>_|none=>none)=_
 rw[this]
theorem Tf {t:TX}(e1:t C ns ρ h=some (x,h₁))(e2:QN (cond x A B) C ns ρ h₁=some ((fl,ρ'),h₂)):sIf t A B C ns ρ h=some ((fl,ρ'),h₂):=by
 show Qp _ _=_;rw[e1];clear e1;cases x<;>exact e2
def XI (fl:Fl)(t:Tg)(body:SX)(n:Nat)(src:Src)(i:Nat)(C:CT)(ns:List Int)(ρ:Lc)(h:H):R (Fl×Lc):=match fl with
 |.ret p=>some ((.ret p,ρ),h)
 |_=>YF t body n src i C ns ρ h
variable {t:Tg} {it:IX} {src:Src} {n i:Nat} {body:SX}
theorem YG (e1:it C ns ρ h=some (src,h₁))(e2:YF t (QN ss) 64 src 0 C ns ρ h₁=some ((fl,ρ'),h₂)):YK t it ss C ns ρ h=some ((fl,ρ'),h₂):=by
 show Qp _ _=_;rw[e1];exact e2
theorem Hv (e1:YQ h i src=some (some p))(e2:ZY t p ρ=some ρ₁)(e3:body C ns ρ₁ h=some ((fl,ρ'),h₁)){fl':Fl}{ρ₂:Lc}(e4:XI fl t body n src (i+1) C ns ρ' h₁=some ((fl',ρ₂),h₂)):YF t body (n+1) src i C ns ρ h=some ((fl',ρ₂),h₂):=by
 rewrite [BM,e1];dsimp only;rw[e2];dsimp only;rw[e3];clear e3;refine q1 fl ?_;intro Q;cases fl<;>exact e4
theorem FE (e1:YQ h i src=some none):YF t body (n+1) src i C ns ρ h=some ((.nxt,ρ),h):=by
 rw[BM,e1]
theorem CQ (e:YF t body n src i C ns ρ h=some ((fl',ρ'),h')):XI .nxt t body n src i C ns ρ h=some ((fl',ρ'),h'):=e
theorem Xr:XI (.ret p) t body n src i C ns ρ h=some ((.ret p,ρ),h):=rfl
theorem Np (e1:e C ns ρ h=some (p,h₁))(e2:Rr p h₁=some (src,h₂)):QO e C ns ρ h=some (src,h₂):=by show Qp _ _=_;rw[e1];exact e2
theorem HI:Rr (.tup ps) h=some (.tup ps,h):=rfl
theorem BL {l:Nat}(e:h[l]?=some (.lst ps)):Rr (.loc l) h=some (.lst l,h):=WV rfl ((Yj e).trans rfl)
theorem Fb:YQ h i (.tup ps)=some ps[i]?:=rfl
theorem YJ {l:Nat}(e:h[l]?=some (.lst ps)):YQ h i (.lst l)=some ps[i]?:=by show ifL _ _=_;rw[e];rfl
theorem Hu {a:Int}:YQ h i (.rng a n)=some (if i<n then some (.int (a+i))else none):=rfl
def WW (x:Bool)(t:TX)(body:SX)(n:Nat)(C:CT)(ns:List Int)(ρ:Lc)(h:H):R (Fl×Lc):=match x with
 |true=>Qp (body C ns ρ h) fun f h=>match f.1 with
  |.ret p=>some ((.ret p,f.2),h)
  |_=>YX t body n C ns f.2 h
 |false=>some ((.nxt,ρ),h)
def GG (fl:Fl)(t:TX)(body:SX)(n:Nat)(C:CT)(ns:List Int)(ρ:Lc)(h:H):R (Fl×Lc):=match fl with
 |.ret p=>some ((.ret p,ρ),h)
 |_=>YX t body n C ns ρ h
variable {tx:TX}
theorem O6 (e:YX tx (QN ss) 64 C ns ρ h=some ((fl,ρ'),h₂)):ZA tx ss C ns ρ h=some ((fl,ρ'),h₂):=e
theorem VY (e1:tx C ns ρ h=some (x,h₁))(e2:WW x tx body n C ns ρ h₁=some ((fl,ρ'),h₂)):YX tx body (n+1) C ns ρ h=some ((fl,ρ'),h₂):=by
 show Qp _ _=_;rw[e1];clear e1;cases x<;>exact e2
theorem Qar:WW false tx body n C ns ρ h=some ((.nxt,ρ),h):=rfl
theorem Vs {ρ₂:Lc}(e1:body C ns ρ h=some ((fl,ρ₁),h₁))(e2:GG fl tx body n C ns ρ₁ h₁=some ((fl',ρ₂),h₂)):WW true tx body n C ns ρ h=some ((fl',ρ₂),h₂):=by
 show Qp _ _=_;rw[e1];clear e1;cases fl<;>exact e2
theorem Xo (e:YX tx body n C ns ρ h=some ((fl',ρ'),h')):GG .nxt tx body n C ns ρ h=some ((fl',ρ'),h'):=e
theorem XA:GG (.ret p) tx body n C ns ρ h=some ((.ret p,ρ),h):=rfl
def Y3:Fl→PV
 |.ret p=>p
 |_=>.none
theorem JH {f:Nat}(e1:Qr (Qm f) ps=some ρ)(e2:QN (Nd f) C ns ρ h=some ((fl,ρ'),h₁)):Q0 C ns f ps h=some (Y3 fl,h₁):=by
 unfold Q0;rw[e1];show Qp _ _=_;rw[e2];clear e2;cases fl<;>rfl
end
section
variable {ns:List Int} {n f:Nat} {ps:List PV} {h h':H} {p:PV}
theorem L_v (hn:1≤n)(lo:Jb f=false)(e:Q0 (Qb ns (n - 1)) ns f ps h=some (p,h'))(x:Ext h h')(lp:Yp h.length p=true):Qb ns n f ps h=some (p,h):=by
 obtain⟨X,rfl⟩:=x
 obtain⟨m,rfl⟩:∃m,n=m+1:=⟨n - 1,by omega⟩
 exact CL lo e lp
theorem L_n {l:Nat}{o:AO}(hn:1≤n)(lo:Jb f=false)(e:Q0 (Qb ns (n - 1)) ns f ps h=some (.loc l,h'))(x:Ext h h')(hl:h.length≤l)(ho:h'[l]?=some o)(lp:JI h.length o=true):Qb ns n f ps h=some (.loc h.length,h++[o]):=by
 refine q1 n ?_;intro Q;obtain⟨X,rfl⟩:=x
 obtain⟨m,rfl⟩:∃m,n=m+1:=⟨n - 1,by omega⟩
 obtain⟨i,rfl⟩:∃i,l=h.length+i:=⟨l - h.length,by exact o180 hl⟩
 refine AE lo e ?_ lp
 rw[List.getElem?_append_right (Nat.le_add_right _ _),Nat.add_sub_cancel_left]at ho
 exact ho
theorem L_k (hn:1≤n)(lo:Jb f=false)(e:Q0 (Qb ns (n - 1)) ns f ps h=some (p,h'))(k:gcU h (p,h')=(p,h')):Qb ns n f ps h=some (p,h'):=by
 obtain⟨m,rfl⟩:∃m,n=m+1:=⟨n - 1,by omega⟩
 simp only[N8 lo,show Q0 (Qb ns m) ns f ps h=some (p,h')from e,Option.map_some,k]
end
end Mine.Tactic
namespace Mine.Tactic
section
variable {C:CT} {ns:List Int} {ρ ρ' ρ₁:Lc} {h h' h₁ h₂ h₃:H} {p q r v:PV} {ps qs:List PV} {es:List EX} {a b e:EX} {x y:Bool} {fl fl':Fl} {A B:List SX} {ts:List TX} {tx:TX} {body:SX} {n i:Nat} {t:Tg} {src:Src}
theorem Fm {rr:R PV}(k:x=true)(e1:a C ns ρ h=rr):(cond x a b) C ns ρ h=rr:=by rw[k];exact e1
theorem FC {rr:R PV}(k:x=false)(e1:b C ns ρ h=rr):(cond x a b) C ns ρ h=rr:=by rw[k];exact e1
theorem H8 {α:Type}{X Y rr:R α}(k:x=true)(e1:X=rr):cond x X Y=rr:=by rw[k];exact e1
theorem HZ {α:Type}{X Y rr:R α}(k:x=false)(e1:Y=rr):cond x X Y=rr:=by rw[k];exact e1
theorem Cr {rr:R (Fl×Lc)}(k:x=true)(e1:QN A C ns ρ h=rr):QN (cond x A B) C ns ρ h=rr:=by rw[k];exact e1
theorem Cw {rr:R (Fl×Lc)}(k:x=false)(e1:QN B C ns ρ h=rr):QN (cond x A B) C ns ρ h=rr:=by rw[k];exact e1
theorem EN {rr:R Bool}(k:x=true)(e1:Yk ts C ns ρ h=rr):EF x ts C ns ρ h=rr:=by rw[k];exact e1
theorem ES (k:x=false):EF x ts C ns ρ h=some (false,h):=by rw[k];rfl
theorem A5 {rr:R Bool}(k:x=false)(e1:tOr ts C ns ρ h=rr):orK x ts C ns ρ h=rr:=by rw[k];exact e1
theorem CV (k:x=true):orK x ts C ns ρ h=some (true,h):=by rw[k];rfl
theorem Vx {rr:R (Fl×Lc)}(k:x=true)(e:WW true tx body n C ns ρ h=rr):WW x tx body n C ns ρ h=rr:=by rw[k];exact e
theorem QbT {rr:R (Fl×Lc)}(k:x=false)(e:WW false tx body n C ns ρ h=rr):WW x tx body n C ns ρ h=rr:=by rw[k];exact e
theorem Ng {i:Int}(e:Yw ps i=some v):Dp (.tup ps) (.int i) h=some (v,h):=OR (by show Option.map _ _=_;rw[e];rfl)
theorem MD {l:Nat}{i:Int}(e1:h[l]?=some (.lst ps))(e:Yw ps i=some v):Dp (.loc l) (.int i) h=some (v,h):=WV rfl (OR ((Yj e1).trans (by show Option.map _ _=_;rw[e];rfl)))
theorem FA {l:Nat}{k:PV}{ds:List (PV×PV)}(e1:h[l]?=some (.dct ds))(e2:ZT k=true)(e:QP k ds=some (some v)):Dp (.loc l) k h=some (v,h):=WV rfl (WV (N4 e1) ((Jj e1).trans (gdT e2 (by rw[e];rfl))))
theorem RL (k:QG ps=true):PX ns (.tup ps) h=some (.int ps.length,h):=congrArg (Option.map _) (OR (gdT k rfl))
theorem Bq {l:Nat}(e:h[l]?=some (.lst ps))(k:QG ps=true):PX ns (.loc l) h=some (.int ps.length,h):=congrArg (Option.map _) (WV rfl (OR ((Yj e).trans (gdT k rfl))))
theorem Mf (e1:a C ns ρ h=some (p,h₁))(k:PX ns p h₁=some (v,h₂)):Yl a C ns ρ h=some (v,h₂):=Qv e1 k
theorem Cc (e1:a C ns ρ h=some (p,h₁))(e2:b C ns ρ h₁=some (q,h₂))(k1:Nk p h₂=true)(k2:Nk q h₂=true):OK a b C ns ρ h=some (.tup [],h₂):=
 Qv e1 (Qv e2 (by simp only[k1,k2,Bool.and_self,if_true]))
theorem SM:Nk (.tup []) h=true:=rfl
theorem ZG {k:Int}(e1:a C ns ρ h=some (.int k,h₁))(e2:ZH 0 k h₁=some (src,h₂)):QM a C ns ρ h=some (src,h₂):=Qv e1 e2
theorem GV {j k:Int}(e1:a C ns ρ h=some (.int j,h₁))(e2:b C ns ρ h₁=some (.int k,h₂))(e3:ZH j k h₂=some (src,h₃)):N7 a b C ns ρ h=some (src,h₃):=Qv e1 (Qv e2 e3)
def X3 (x:Bool)(t:Tg)(ifs:TX)(f:CT→List Int→Lc→H→R Unit)(n:Nat)(src:Src)(i:Nat)(ρ':Lc)(C:CT)(ns:List Int)(ρ:Lc)(h:H):R Unit:=match x with
 |true=>Qp (f C ns ρ' h) fun Z h=>QZ t ifs f n src i C ns ρ h
 |false=>QZ t ifs f n src i C ns ρ h
variable {ifs:TX} {f:CT→List Int→Lc→H→R Unit} {it:IX} {ifl:List TX}
theorem VI (e1:it C ns ρ h=some (src,h₁))(e2:QZ t (Yk ifl) (MA h₁.length e) 64 src 0 C ns (YN (QX t) ρ) (h₁++[.lst []])=some ((),h₂)):QJ it t ifl e C ns ρ h=some (.loc h₁.length,h₂):=by
 exact Qv e1 (Qv e2 rfl)
theorem XC (e1:YQ h i src=some none):QZ t ifs f (n+1) src i C ns ρ h=some ((),h):=by rw[JS,e1]
theorem Kk (e1:YQ h i src=some (some p))(e2:ZY t p ρ=some ρ₁)(e3:ifs C ns ρ₁ h=some (x,h₁))(e4:X3 x t ifs f n src (i+1) ρ₁ C ns ρ h₁=some ((),h₂)):QZ t ifs f (n+1) src i C ns ρ h=some ((),h₂):=by
 rewrite [JS,e1];dsimp only;rw[e2];dsimp only;rw[e3];clear e3;cases x<;>exact e4
theorem RY (k:x=true)(e1:f C ns ρ' h=some ((),h₁))(e2:QZ t ifs f n src i C ns ρ h₁=some ((),h₂)):X3 x t ifs f n src i ρ' C ns ρ h=some ((),h₂):=by
 rw[k];show Qp _ _=_;rw[e1];exact e2
theorem CI (k:x=false)(e2:QZ t ifs f n src i C ns ρ h=some ((),h₂)):X3 x t ifs f n src i ρ' C ns ρ h=some ((),h₂):=by rw[k];exact e2
theorem OS {acc:Nat}(e1:e C ns ρ h=some (p,h₁))(e2:h₁[acc]?=some (.lst ps))(k:QG ps=true)(s:Y0 h₁ acc (.lst (ps++[p])) h₂):MA acc e C ns ρ h=some ((),h₂):=by
 show Qp _ _=_;rw[e1];show Qp (J8 _ _ _) _=_
 rw[show J8 _ _ _=_ from(Yj e2).trans (gdT k rfl)];exact s▸rfl
end
section
variable {C:CT} {ns:List Int} {ρ ρ':Lc} {h h' h₁:H} {p:PV} {ps:List PV} {fl:Fl} {f n:Nat}
theorem Qd (e1:Qr (Qm f) ps=some ρ)(e2:QN (Nd f) C ns ρ h=some ((fl,ρ'),h₁))(e3:Y3 fl=p):Q0 C ns f ps h=some (p,h₁):=e3▸JH e1 e2
theorem KI.at (K:KI h){l:Nat}{o:AO}(e:∀a b,(KH a b)[l]?=some o):h[l]?=some o:=by
 obtain⟨k,a,b,t⟩:=K
 have:=e a b
 rw[←t]at this
 exact(Zs this).2
theorem KI.k1 (K:KI h):h[1]?=some (.ins 6 [(36,.loc 6)]):=K.at fun Z Z=>rfl
def Way (h h':H)(p:PV)(g:Option (List PV)):Prop:=Ext h h'∧match g with
 |none=>∃l,h.length≤l∧p=.loc l∧h'[l]?=some (.lst [])
 |some gs=>∃l l',h.length≤l∧h.length≤l'∧p=.loc l∧h'[l]?=some (.lst [.loc l'])∧h'[l']?=some (.lst gs)
theorem SK {N l:Nat}(k:N≤l):Yp N (.loc l)=false:=by
 show Nat.blt _ _=false
 cases q:Nat.blt l N with
 |false=>rfl
 |true=>exact absurd (Nat.le_of_ble_eq_true q) (Nat.not_le.mpr (Nat.lt_succ_of_le k))
theorem Q5 {g:Option (List PV)}(hn:1≤n)(lo:Jb f=false)(e:Q0 (Qb ns (n - 1)) ns f ps h=some (p,h'))(W:Way h h' p g):∃p' h₂,Qb ns n f ps h=some (p',h₂)∧Way h h₂ p' g:=by
 refine q2 n g ?_;intro Q;obtain⟨m,rfl⟩:∃m,n=m+1:=⟨n - 1,by omega⟩
 obtain⟨X,W⟩:=W
 cases g with
 |none=>
  obtain⟨l,a,rfl,b⟩:=W
  exact⟨_,_,L_n hn lo e X a b rfl,Ext.snoc .refl,h.length,Nat.le_refl _,rfl,Qe⟩
 |some gs=>
  obtain⟨l,l',a,a',rfl,b,b'⟩:=W
  refine⟨_,_,L_k hn lo e ?_,X,l,l',a,a',rfl,b,b'⟩
  clear b' e;obtain⟨Y,rfl⟩:=X
  unfold gcU
  dsimp only
  rewrite [List.take_left,if_pos rfl,SK a,if_neg (by simp),b]
  dsimp only
  rw[if_neg]
  rw[Bool.and_eq_true]
  intro q
  have:=q.2
  simp only[JI,Yc,Bool.and_eq_true,SK a']at this
  cases this.1
end
section
variable {C:CT} {ns:List Int} {ρ ρ' ρ₁:Lc} {h h' h₁ h₂ h₃:H} {p q r v:PV} {ps qs:List PV} {es:List EX} {a b e:EX} {x y:Bool} {l m:Nat} {ds:List (PV×PV)}
theorem Yo {l m:Nat}(k:l≠m):Nat.beq l m=false:=by cases q:Nat.beq l m with
 |false=>rfl
 |true=>exact absurd (Nat.eq_of_beq_eq_true q) k
theorem QaT {i j:Int}(e1:a C ns ρ h=some (.int i,h₁))(e2:b C ns ρ h₁=some (.int j,h₂))(k:(fun a b=>decide (a<b)) i j=x):eLt a b C ns ρ h=some (.bool x,h₂):=Y2 (f:=NN fun a b=>decide (a<b)) e1 e2 (by subst k;rfl)
theorem QaF {i j:Int}(e1:a C ns ρ h=some (.int i,h₁))(e2:b C ns ρ h₁=some (.int j,h₂))(k:(fun a b=>decide (a≤b)) i j=x):eLe a b C ns ρ h=some (.bool x,h₂):=Y2 (f:=NN fun a b=>decide (a≤b)) e1 e2 (by subst k;rfl)
theorem Qal {i j:Int}(e1:a C ns ρ h=some (.int i,h₁))(e2:b C ns ρ h₁=some (.int j,h₂))(k:(fun a b=>decide (b<a)) i j=x):eGt a b C ns ρ h=some (.bool x,h₂):=Y2 (f:=NN fun a b=>decide (b<a)) e1 e2 (by subst k;rfl)
theorem QbA {i j:Int}(e1:a C ns ρ h=some (.int i,h₁))(e2:b C ns ρ h₁=some (.int j,h₂))(k:(fun a b=>decide (b≤a)) i j=x):eGe a b C ns ρ h=some (.bool x,h₂):=Y2 (f:=NN fun a b=>decide (b≤a)) e1 e2 (by subst k;rfl)
theorem AJ (e1:a C ns ρ h=some (p,h₁))(e2:b C ns ρ h₁=some (q,h₂))(k:Ei p q h₂=some (v,h₃)):PH a b C ns ρ h=some (v,h₃):=Y2 e1 e2 k
theorem XD (e1:a C ns ρ h=some (p,h₁))(e2:b C ns ρ h₁=some (q,h₂))(k:RS p q h₂=some (v,h₃)):Rk a b C ns ρ h=some (v,h₃):=Y2 e1 e2 k
theorem CB (e1:a C ns ρ h=some (p,h₁))(e2:b C ns ρ h₁=some (q,h₂))(k:ED p q h₂=some (v,h₃)):T0 a b C ns ρ h=some (v,h₃):=Y2 e1 e2 k
theorem Aa (e1:a C ns ρ h=some (p,h₁))(k:VU p h₁=some (v,h₂)):Tc a C ns ρ h=some (v,h₂):=Z6 e1 k
theorem Rb (e1:a C ns ρ h=some (p,h₁))(k:IB p h₁=some (v,h₂)):W2 a C ns ρ h=some (v,h₂):=Z6 e1 k
theorem CZ (e1:a C ns ρ h=some (p,h₁))(e2:b C ns ρ h₁=some (q,h₂))(k:Hp p q h₂=some (v,h₃)):Jx a b C ns ρ h=some (v,h₃):=Y2 e1 e2 k
theorem Sg (e1:h[l]?=some (.lst ps))(e2:h[m]?=some (.lst qs))(k:QG (ps++qs)=true):Hp (.loc l) (.loc m) h=some (.loc h.length,h++[.lst (ps++qs)]):=by
 exact WV rfl (WV rfl ((Yj e1).trans ((Yj e2).trans (gdT k rfl))))
theorem TK {i j:Int}:Hp (.int i) (.int j) h=some (.int (i+j),h):=rfl
theorem Ro (e1:a C ns ρ h=some (p,h₁))(k:UL p h₁=some (v,h₂)):W5 a C ns ρ h=some (v,h₂):=Z6 e1 k
theorem Lx (k:QG ps=true):UL (.tup ps) h=some (.loc h.length,h++[.lst ps]):=by
 exact OR (gdT k rfl)
theorem PJ (e:h[l]?=some (.lst ps))(k:QG ps=true):UL (.loc l) h=some (.loc h.length,h++[.lst ps]):=by
 exact WV rfl ((Yj e).trans (gdT k rfl))
theorem R2 (e1:a C ns ρ h=some (p,h₁))(k:Db p h₁=some (v,h₂)):Mg a C ns ρ h=some (v,h₂):=Z6 e1 k
theorem Lq (e:h[l]?=some (.lst ps))(k:QG ps=true):Db (.loc l) h=some (.tup ps,h):=by
 exact WV rfl ((Yj e).trans (gdT k rfl))
theorem Ld (e1:a C ns ρ h=some (.loc l,h₁))(e2:h₁[l]?=some (.lst [p])):Bc a C ns ρ h=some (.loc h₁.length,h₁++[.lst []]):=by
 exact Z6 (f:=Dy) e1 ((Yj e2).trans rfl)
theorem L5 (e1:a C ns ρ h=some (.loc l,h₁))(e2:h₁[l]?=some (.lst [])):Uc a C ns ρ h=some (.loc h₁.length,h₁++[.dct []]):=by
 exact Z6 (f:=OY) e1 ((Yj e2).trans rfl)
theorem DM {is:List Int}(e1:a C ns ρ h=some (.loc l,h₁))(e2:h₁[l]?=some (.dct ds))(e3:Wm ds=some is)(e4:(Mr is&&Nat.blt is.length 64)=true):Wx a C ns ρ h=some (.loc h₁.length,h₁++[.lst (is.map .int)]):=by
 refine Z6 (f:=Im) e1 ((Jj e2).trans ?_)
 rw[e3]
 refine gdT e4 ?_
 have:QG (is.map PV.int)=true:=by
  delta QG
  rw[List.length_map]
  exact Nat.ble_eq_true_of_le (Nat.le_trans (Nat.le_of_lt (Nat.le_of_ble_eq_true (Bool.and_eq_true_iff.mp e4).2)) (by decide))
 exact gdT this rfl
theorem Ed (e:anyV h p ps=some x):inV p (.tup ps) h=some x:=OR e
theorem Fa (e1:h[l]?=some (.lst ps))(e:anyV h p ps=some x):inV p (.loc l) h=some x:=WV rfl (OR ((Yj e1).trans e))
theorem L3 {rr:Option PV}(e1:h[l]?=some (.dct ds))(k:ZT p=true)(e:QP p ds=some rr):inV p (.loc l) h=some rr.isSome:=WV rfl (WV (N4 e1) ((Jj e1).trans (gdT k (by rw[e];rfl))))
theorem Qat (e1:a C ns ρ h=some (p,h₁))(e2:b C ns ρ h₁=some (q,h₂))(k:isO p q h₂=some (v,h₃)):eIs a b C ns ρ h=some (v,h₃):=Y2 e1 e2 k
theorem Ts (e1:a C ns ρ h=some (p,h₁))(e2:b C ns ρ h₁=some (q,h₂))(k:G8 p q h₂=some (v,h₃)):ZC a b C ns ρ h=some (v,h₃):=Y2 e1 e2 k
theorem XB {k d:EX}{kv dv:PV}{rr:Option PV}(e1:a C ns ρ h=some (.loc l,h₁))(e2:h₁[l]?=some (.dct ds))(e3:k C ns ρ h₁=some (kv,h₂))(e4:d C ns ρ h₂=some (dv,h₃)){qs':List (PV×PV)}(e5:h₃[l]?=some (.dct qs'))(k1:ZT kv=true)(k2:QP kv qs'=some rr):P9 a k d C ns ρ h=some (rr.getD dv,h₃):=by
 refine Qv e1 ?_
 have:JU (.loc l) h₁=true:=congrArg Option.isSome (Jj e2)
 show(match JU (.loc l) h₁ with|true=>Qp _ _|false=>none)=_
 rw[this]
 refine Qv e3 (Qv e4 ?_)
 exact(Jj e5).trans (gdT k1 (by rw[k2];rfl))
end
section
variable {C:CT} {ns:List Int} {ρ ρ' ρ₁:Lc} {h h' h₁ h₂ h₃:H} {p q r v x:PV} {ps qs:List PV} {e:EX} {i:Nat} {is:List Nat} {src:Src} {it:IX} {ifl:List TX}
theorem T7 (e:ρ[i]?=some p)(k:J4 p=true):Qa i C ns ρ h=some (p,h):=YM (by unfold Ya;rw[e]) k
theorem Kx (e:ρ[i]?=some (.tup (p::ps))):Qi (Qa i) (Qj 0) C ns ρ h=some (p,h):=Bl (T7 e rfl) Zg (Ng rfl)
theorem CP (e:ρ[i]?=some (.tup (x::p::ps))):Qi (Qa i) (Qj 1) C ns ρ h=some (p,h):=Bl (T7 e rfl) Zg (Ng rfl)
theorem CW (e:ρ[i]?=some (.tup (x::q::p::ps))):Qi (Qa i) (Qj 2) C ns ρ h=some (p,h):=Bl (T7 e rfl) Zg (Ng rfl)
theorem C5 {a b:Nat}{z:Bool}(e:ρ[i]?=some (.tup (.sym b::ps)))(k:Nat.beq b a=z):eEq (Qi (Qa i) (Qj 0)) (Qs a) C ns ρ h=some (.bool z,h):=XG (Kx e) LW (k▸rfl)
theorem VH {a b:Nat}{z:Bool}(e:ρ[i]?=some (.tup (.sym b::ps)))(k:Nat.beq b a=z):eNe (Qi (Qa i) (Qj 0)) (Qs a) C ns ρ h=some (.bool (!z),h):=T4 (Kx e) LW (k▸rfl)
theorem Qbg:Ya (x::ρ) 0=x:=rfl
theorem QaS (e:Ya ρ i=p):Ya (x::ρ) (i+1)=p:=e
theorem Qan {a0 a1:PV}:QW (a0::a1::ρ) 1 p=a0::p::ρ:=rfl
theorem QbR {a0 a1 a2:PV}:QW (a0::a1::a2::ρ) 2 p=a0::a1::p::ρ:=rfl
theorem QbJ {a0 a1 a2 a3:PV}:QW (a0::a1::a2::a3::ρ) 3 p=a0::a1::a2::p::ρ:=rfl
theorem Qas {a0 a1 a2 a3 a4:PV}:QW (a0::a1::a2::a3::a4::ρ) 4 p=a0::a1::a2::a3::p::ρ:=rfl
theorem QaV {a0 a1 a2 a3 a4 a5:PV}:QW (a0::a1::a2::a3::a4::a5::ρ) 5 p=a0::a1::a2::a3::a4::p::ρ:=rfl
theorem Qak {a0 a1 a2 a3 a4 a5 a6:PV}:QW (a0::a1::a2::a3::a4::a5::a6::ρ) 6 p=a0::a1::a2::a3::a4::a5::p::ρ:=rfl
theorem Qa1 {a0 a1 a2 a3 a4 a5 a6 a7:PV}:QW (a0::a1::a2::a3::a4::a5::a6::a7::ρ) 7 p=a0::a1::a2::a3::a4::a5::a6::p::ρ:=rfl
theorem Qay {a0 a1 a2 a3 a4 a5 a6 a7 a8:PV}:QW (a0::a1::a2::a3::a4::a5::a6::a7::a8::ρ) 8 p=a0::a1::a2::a3::a4::a5::a6::a7::p::ρ:=rfl
theorem QaE {a0 a1 a2 a3 a4 a5 a6 a7 a8 a9:PV}:QW (a0::a1::a2::a3::a4::a5::a6::a7::a8::a9::ρ) 9 p=a0::a1::a2::a3::a4::a5::a6::a7::a8::p::ρ:=rfl
theorem Ck {a0 a1 a2 a3 a4 a5 a6 a7 a8 a9 a10:PV}:QW (a0::a1::a2::a3::a4::a5::a6::a7::a8::a9::a10::ρ) 10 p=a0::a1::a2::a3::a4::a5::a6::a7::a8::a9::p::ρ:=rfl
theorem C7 {a0 a1 a2 a3 a4 a5 a6 a7 a8 a9 a10 a11:PV}:QW (a0::a1::a2::a3::a4::a5::a6::a7::a8::a9::a10::a11::ρ) 11 p=a0::a1::a2::a3::a4::a5::a6::a7::a8::a9::a10::p::ρ:=rfl
theorem CF {a0 a1 a2 a3 a4 a5 a6 a7 a8 a9 a10 a11 a12:PV}:QW (a0::a1::a2::a3::a4::a5::a6::a7::a8::a9::a10::a11::a12::ρ) 12 p=a0::a1::a2::a3::a4::a5::a6::a7::a8::a9::a10::a11::p::ρ:=rfl
theorem Au {a0 a1 a2 a3 a4 a5 a6 a7 a8 a9 a10 a11 a12 a13:PV}:QW (a0::a1::a2::a3::a4::a5::a6::a7::a8::a9::a10::a11::a12::a13::ρ) 13 p=a0::a1::a2::a3::a4::a5::a6::a7::a8::a9::a10::a11::a12::p::ρ:=rfl
theorem Ap {a0 a1 a2 a3 a4 a5 a6 a7 a8 a9 a10 a11 a12 a13 a14 a15:PV}:QW (a0::a1::a2::a3::a4::a5::a6::a7::a8::a9::a10::a11::a12::a13::a14::a15::ρ) 15 p=a0::a1::a2::a3::a4::a5::a6::a7::a8::a9::a10::a11::a12::a13::a14::p::ρ:=rfl
theorem QaD (e:QW ρ i p=ρ'):QW (x::ρ) (i+1) p=x::ρ':=by rw[←e];rfl
theorem sa0:Yx [] [] ρ=some ρ:=rfl
theorem saS (e:QW ρ i p=ρ₁)(e2:Yx is ps ρ₁=some ρ'):Yx (i::is) (p::ps) ρ=some ρ':=by simp only[←e2,←e];rfl
theorem Qaj (e:QW ρ i p=ρ'):ZY (.one i) p ρ=some ρ':=by rw[←e];rfl
theorem Qa0 (e:Yx is ps ρ=some ρ'):ZY (.many is) (.tup ps) ρ=some ρ':=e
theorem rs0:YN [] ρ=ρ:=rfl
theorem rsS (e:QW ρ i .unb=ρ₁)(e2:YN is ρ₁=ρ'):YN (i::is) ρ=ρ':=by simp only[←e2,←e];rfl
theorem rs1 (e:QW ρ i .unb=ρ₁):YN (QX (.one i)) ρ=ρ₁:=rsS e rs0
theorem rsM (e:YN is ρ=ρ₁):YN (QX (.many is)) ρ=ρ₁:=e
theorem ZL (e1:e C ns ρ h=some (p,h₁))(e2:QW ρ i p=ρ'):sSet i e C ns ρ h=some ((.nxt,ρ'),h₁):=e2▸Cl e1
theorem Iv (e1:e C ns ρ h=some (p,h₁))(k:p=.tup ps)(e2:Yx is ps ρ=some ρ'):sSetT is e C ns ρ h=some ((.nxt,ρ'),h₁):=Eg (k▸e1) e2
section
variable {ss A:List SX} {fl:Fl} {ρ₁ ρ₂:Lc} {h₃:H}
theorem Qap (e1:e C ns ρ h=some (p,h₁))(e2:QW ρ i p=ρ₁)(e3:QN ss C ns ρ₁ h₁=some ((fl,ρ₂),h₃)):QN (sSet i e::ss) C ns ρ h=some ((fl,ρ₂),h₃):=Qt (ZL e1 e2) e3
theorem Qaz (e1:e C ns ρ h=some (p,h₁))(k:p=.tup ps)(e2:Yx is ps ρ=some ρ₁)(e3:QN ss C ns ρ₁ h₁=some ((fl,ρ₂),h₃)):QN (sSetT is e::ss) C ns ρ h=some ((fl,ρ₂),h₃):=Qt (Iv e1 k e2) e3
theorem QbD (e1:e C ns ρ h=some (p,h₁))(e3:QN ss C ns ρ h₁=some ((fl,ρ₂),h₃)):QN (sExp e::ss) C ns ρ h=some ((fl,ρ₂),h₃):=Qt (K7 e1) e3
theorem Qaw {t:TX}{x:Bool}(e1:t C ns ρ h=some (x,h₁))(k:x=false)(e3:QN ss C ns ρ h₁=some ((fl,ρ₂),h₃)):QN (sIf t A []::ss) C ns ρ h=some ((fl,ρ₂),h₃):=by subst k;exact Qt (Tf e1 (B:=[]) W7) e3
end
theorem BK {t:Tg}(e1:it C ns ρ h=some (src,h₁))(e0:YN (QX t) ρ=ρ₁)(e2:QZ t (Yk ifl) (MA h₁.length e) 64 src 0 C ns ρ₁ (h₁++[.lst []])=some ((),h₂)):QJ it t ifl e C ns ρ h=some (.loc h₁.length,h₂):=VI e1 (e0▸e2)
end
section
variable {ns:List Int} {h h' h₁ h0:H} {p q:PV} {ps qs:List PV} {l m:Nat} {o o':AO} {x:Bool}
theorem QC (e:h[l]?=some o)(o':AO):∃h₁,Y0 h l o' h₁∧h₁[l]?=some o'∧(∀k,k≠l→h₁[k]?=h[k]?)∧h₁.length=h.length∧∀h0,Ext h0 h→h0.length≤l→Ext h0 h₁:=by
 refine⟨h.set l o',rfl,List.getElem?_set_self (Qc e),fun k hk=>List.getElem?_set_ne (Ne.symm hk),List.length_set,fun h0 E hl=>?_⟩
 clear e;obtain⟨X,rfl⟩:=E
 exact⟨X.set (l - h0.length) o',by rw[List.set_append_right _ _ hl]⟩
theorem eqL {k:Nat}(e1:h[l]?=some (.lst ps))(e2:h[m]?=some (.lst qs)):eqV h (k+1) (.loc l) (.loc m)=(match Nat.beq ps.length qs.length with|true=>Yq (eqV h k) ps qs|false=>some false):=by
 show ifL h[l]? _=_
 rw[e1]
 show ifL h[m]? _=_
 rw[e2];rfl
theorem YU (e1:h[l]?=some (.lst ps))(e2:h[m]?=some (.lst qs))(k:(match Nat.beq ps.length qs.length with|true=>Yq (eqV h 5) ps qs|false=>some false)=some x):eqV h EQ (.loc l) (.loc m)=some x:=(eqL e1 e2).trans k
end
theorem AW {x0:PV}:Qr (Qm 0) [x0]=some [x0,.none]:=rfl
theorem Qad {x0:PV}:Qr (Qm 4) [x0]=some [x0,.none,.int 0]:=rfl
theorem fr5 {x0 x1:PV}:Qr (Qm 5) [x0,x1]=some [x0,x1]:=rfl
theorem QaY {x0 x1 x2:PV}:Qr (Qm 10) [x0,x1,x2]=some [x0,x1,x2]:=rfl
theorem Aj {x0 x1 x2:PV}:Qr (Qm 11) [x0,x1,x2]=some [x0,x1,x2,.unb,.unb,.unb,.unb]:=rfl
theorem A3 {x0 x1 x2 x3:PV}:Qr (Qm 12) [x0,x1,x2,x3]=some [x0,x1,x2,x3,.unb,.unb]:=rfl
theorem PM {x0 x1 x2:PV}:Qr (Qm 13) [x0,x1,x2]=some [x0,x1,x2,.unb,.unb,.unb]:=rfl
theorem An {x0 x1 x2 x3:PV}:Qr (Qm 14) [x0,x1,x2,x3]=some [x0,x1,x2,x3,.unb,.unb,.unb]:=rfl
theorem Qag {x0 x1 x2:PV}:Qr (Qm 15) [x0,x1,x2]=some [x0,x1,x2,.unb]:=rfl
theorem Ac {x0 x1 x2:PV}:Qr (Qm 16) [x0,x1,x2]=some [x0,x1,x2,.unb,.unb,.unb]:=rfl
theorem QbG {x0 x1:PV}:Qr (Qm 17) [x0,x1]=some [x0,x1,.unb,.unb]:=rfl
theorem TY {x0 x1:PV}:Qr (Qm 18) [x0,x1]=some [x0,x1,.unb,.unb,.unb,.unb,.unb,.unb]:=rfl
theorem GW {x0 x1 x2:PV}:Qr (Qm 19) [x0,x1,x2]=some [x0,x1,x2,.int 4000,.unb,.unb]:=rfl
theorem VK {x0 x1 x2:PV}:Qr (Qm 20) [x0,x1,x2]=some [x0,x1,x2]:=rfl
theorem L9 {x0 x1 x2:PV}:Qr (Qm 21) [x0,x1,x2]=some [x0,x1,x2,.int 4000,.unb,.unb,.unb,.unb,.unb,.unb,.unb,.unb,.unb,.unb]:=rfl
theorem QbQ {x0 x1 x2:PV}:Qr (Qm 23) [x0,x1,x2]=some [x0,x1,x2]:=rfl
theorem QbH {x0 x1:PV}:Qr (Qm 24) [x0,x1]=some [x0,x1]:=rfl
theorem Qbk {x0 x1 x2:PV}:Qr (Qm 25) [x0,x1,x2]=some [x0,x1,x2,.unb,.unb]:=rfl
theorem Uz {x0 x1 x2 x3:PV}:Qr (Qm 26) [x0,x1,x2,x3]=some [x0,x1,x2,x3,.unb]:=rfl
theorem AP {x0 x1 x2 x3:PV}:Qr (Qm 27) [x0,x1,x2,x3]=some [x0,x1,x2,x3,.unb,.unb,.unb,.unb]:=rfl
theorem GO {x0 x1 x2 x3:PV}:Qr (Qm 28) [x0,x1,x2,x3]=some [x0,x1,x2,x3,.unb,.unb,.unb,.unb,.unb,.unb,.unb,.unb,.unb,.unb,.unb]:=rfl
theorem Qah {x0 x1 x2 x3:PV}:Qr (Qm 29) [x0,x1,x2,x3]=some [x0,x1,x2,x3,.unb,.unb,.unb]:=rfl
theorem Ax {x0 x1 x2:PV}:Qr (Qm 30) [x0,x1,x2]=some [x0,x1,x2,.unb,.unb,.unb]:=rfl
theorem QaB {x0 x1:PV}:Qr (Qm 31) [x0,x1]=some [x0,x1]:=rfl
theorem X7 {x0 x1 x2 x3:PV}:Qr (Qm 32) [x0,x1,x2,x3]=some [x0,x1,x2,x3,.unb]:=rfl
theorem Cm {x0 x1 x2:PV}:Qr (Qm 33) [x0,x1,x2]=some [x0,x1,x2,.unb,.unb,.unb]:=rfl
theorem QbC {x0 x1:PV}:Qr (Qm 34) [x0,x1]=some [x0,x1,.unb]:=rfl
theorem Qbs {x0 x1:PV}:Qr (Qm 35) [x0,x1]=some [x0,x1]:=rfl
theorem QaO {x0 x1 x2:PV}:Qr (Qm 36) [x0,x1,x2]=some [x0,x1,x2]:=rfl
theorem QaM {x0 x1:PV}:Qr (Qm 37) [x0,x1]=some [x0,x1]:=rfl
theorem Sn {x0 x1 x2:PV}:Qr (Qm 38) [x0,x1,x2]=some [x0,x1,x2,.unb,.unb]:=rfl
theorem QaH {x0 x1 x2:PV}:Qr (Qm 39) [x0,x1,x2]=some [x0,x1,x2,.unb,.unb]:=rfl
theorem Qbw {x0 x1:PV}:Qr (Qm 40) [x0,x1]=some [x0,x1,.unb,.unb,.unb]:=rfl
theorem QaP {x0 x1 x2 x3 x4 x5 x6:PV}:Qr (Qm 41) [x0,x1,x2,x3,x4,x5,x6]=some [x0,x1,x2,x3,x4,x5,x6]:=rfl
theorem Ew {x0 x1 x2 x3 x4:PV}:Qr (Qm 41) [x0,x1,x2,x3,x4]=some [x0,x1,x2,x3,x4,.bool false,.tup []]:=rfl
theorem Qa6 {x0:PV}:Qr (Qm 43) [x0]=some [x0]:=rfl
theorem QbN {x0 x1:PV}:Qr (Qm 44) [x0,x1]=some [x0,x1,.unb,.unb,.unb,.unb,.unb,.unb,.unb]:=rfl
theorem ER {x0 x1 x2 x3 x4 x5 x6 x7:PV}:Qr (Qm 49) [x0,x1,x2,x3,x4,x5,x6,x7]=some [x0,x1,x2,x3,x4,x5,x6,x7,.int 0,.none]:=rfl
theorem EU {x0 x1:PV}:Qr (Qm 50) [x0,x1]=some [x0,x1]:=rfl
theorem QbE {x0 x1:PV}:Qr (Qm 51) [x0,x1]=some [x0,x1]:=rfl
theorem CX {x0 x1 x2:PV}:Qr (Qm 52) [x0,x1,x2]=some [x0,x1,x2]:=rfl
theorem C8 {x0 x1 x2:PV}:Qr (Qm 53) [x0,x1,x2]=some [x0,x1,x2,.unb]:=rfl
theorem A4 {x0 x1:PV}:Qr (Qm 54) [x0,x1]=some [x0,x1,.unb,.unb]:=rfl
theorem Qa7 {x0 x1:PV}:Qr (Qm 55) [x0,x1]=some [x0,x1]:=rfl
theorem QaL {x0 x1 x2:PV}:Qr (Qm 56) [x0,x1,x2]=some [x0,x1,x2,.unb]:=rfl
theorem Qam {x0 x1:PV}:Qr (Qm 57) [x0,x1]=some [x0,x1,.unb]:=rfl
theorem Qbj {x0 x1:PV}:Qr (Qm 58) [x0,x1]=some [x0,x1]:=rfl
theorem CG {x0 x1:PV}:Qr (Qm 59) [x0,x1]=some [x0,x1]:=rfl
theorem Qao {x0 x1:PV}:Qr (Qm 60) [x0,x1]=some [x0,x1]:=rfl
theorem AM {x0 x1 x2:PV}:Qr (Qm 61) [x0,x1,x2]=some [x0,x1,x2]:=rfl
theorem Qby {x0 x1 x2 x3:PV}:Qr (Qm 62) [x0,x1,x2,x3]=some [x0,x1,x2,x3,.unb,.unb,.unb]:=rfl
theorem Sd {x0 x1 x2 x3:PV}:Qr (Qm 63) [x0,x1,x2,x3]=some [x0,x1,x2,x3,.unb,.unb,.unb,.unb,.unb,.unb]:=rfl
theorem Qax {x0 x1 x2 x3:PV}:Qr (Qm 64) [x0,x1,x2,x3]=some [x0,x1,x2,x3,.unb]:=rfl
theorem C3 {x0 x1 x2 x3:PV}:Qr (Qm 65) [x0,x1,x2,x3]=some [x0,x1,x2,x3,.unb]:=rfl
theorem Qbx {x0 x1 x2 x3:PV}:Qr (Qm 66) [x0,x1,x2,x3]=some [x0,x1,x2,x3,.unb,.unb]:=rfl
theorem RF {x0 x1 x2 x3:PV}:Qr (Qm 67) [x0,x1,x2,x3]=some [x0,x1,x2,x3,.unb,.unb,.unb]:=rfl
theorem Er {x0:PV}:Qr (Qm 68) [x0]=some [x0,.unb,.unb]:=rfl
theorem Cz {x0 x1:PV}:Qr (Qm 69) [x0,x1]=some [x0,x1,.unb]:=rfl
theorem C4 {x0 x1:PV}:Qr (Qm 70) [x0,x1]=some [x0,x1,.unb]:=rfl
theorem PS {x0 x1:PV}:Qr (Qm 71) [x0,x1]=some [x0,x1,.unb]:=rfl
theorem Du {x0 x1:PV}:Qr (Qm 72) [x0,x1]=some [x0,x1,.unb]:=rfl
theorem JX {x0 x1:PV}:Qr (Qm 73) [x0,x1]=some [x0,x1,.unb]:=rfl
theorem TJ {x0 x1 x2:PV}:Qr (Qm 74) [x0,x1,x2]=some [x0,x1,x2,.unb,.unb,.unb,.unb,.unb,.unb,.unb,.unb,.unb,.unb,.unb]:=rfl
theorem Qbc {x0 x1 x2 x3:PV}:Qr (Qm 75) [x0,x1,x2,x3]=some [x0,x1,x2,x3,.unb,.unb]:=rfl
theorem Qbl {x0:PV}:Qr (Qm 76) [x0]=some [x0,.unb,.unb,.unb,.unb,.unb,.unb,.unb,.unb,.unb,.unb,.unb,.unb,.unb,.unb,.unb,.unb,.unb,.unb,.unb,.unb,.unb,.unb,.unb,.unb,.unb]:=rfl
end Mine.Tactic
namespace Mine.Tactic
section
variable {C:CT} {ns:List Int} {ρ:Lc} {h h₁ h₂ h₃:H} {v w:PV} {e a:EX} {k x c l:Nat} {fs fs':List (Nat×PV)}
theorem fp0:Ba k v []=[(k,v)]:=rfl
theorem fpH (e:Nat.beq x k=true):Ba k v ((x,w)::fs)=(x,v)::fs:=by rw[GK,e]
theorem fpM (e:Nat.beq x k=false)(q:Ba k v fs=fs'):Ba k v ((x,w)::fs)=(x,w)::fs':=by rw[GK,e];exact congrArg _ q
theorem Dw (e1:e C ns ρ h=some (v,h₁))(e2:a C ns ρ h₁=some (.loc l,h₂))(e3:h₂[l]?=some (.ins c fs))(e4:(Nat.ble fs.length 30&&ZV c k)=true)(q:Ba k v fs=fs')(s:Y0 h₂ l (.ins c fs') h₃):sAttr a k e C ns ρ h=some ((.nxt,ρ),h₃):=ST e1 e2 e3 e4 (q▸s)
theorem Qa5 {ss:List SX}{fl:Fl}{ρ₂:Lc}{h₄:H}(e1:e C ns ρ h=some (v,h₁))(e2:a C ns ρ h₁=some (.loc l,h₂))(e3:h₂[l]?=some (.ins c fs))(e4:(Nat.ble fs.length 30&&ZV c k)=true)(q:Ba k v fs=fs')(s:Y0 h₂ l (.ins c fs') h₃)(e5:QN ss C ns ρ h₃=some ((fl,ρ₂),h₄)):QN (sAttr a k e::ss) C ns ρ h=some ((fl,ρ₂),h₄):=Qt (Dw e1 e2 e3 e4 q s) e5
end
local macro_rules | `(tactic| walk_at "way") => `(tactic| first
 |exact⟨by walk_at "ext",_,by simp,rfl,by walk_at "lk"⟩
 |(refine⟨by walk_at "ext",_,_,by simp,?_,rfl,by walk_at "lk",Eq.trans (by walk_at "lk") (by exact rfl)⟩;simp))
section
def Wd (w:Nat):Prop:=w=9∨w=10∨w=11∨w=12
def Yb (w v:Nat):Bool:=(GH w).any (Nat.beq v)
def YL (a b:PV):PV:=.tup [.sym 17,a,b]
theorem eqk {h:H}{w v:Nat}(k:Nat):eqV h (k+3) (kOf w) (kOf v)=some (Nat.beq w v):=by
 show some (true&&(Nat.beq w v&&(true&&true)))=_
 simp
theorem eqf {h:H}{w v:Nat}(k:Nat):eqV h (k+2) (fOf w) (fOf v)=some (Nat.beq w v):=by
 show some (true&&(Nat.beq w v&&true))=_
 simp
def eqW:List Nat→List Nat→Bool
 |[],vs=>vs.isEmpty
 |w::ws,vs=>match vs with
  |[]=>false
  |v::vs=>Nat.beq w v&&eqW ws vs
theorem Q7 {ws vs:List Nat}:eqW ws vs=true↔ws=vs:=by
 induction ws generalizing vs with
 |nil=>cases vs with
  |nil=>exact⟨fun _=>rfl,fun _=>rfl⟩
  |cons _ _=>exact⟨ff,fun e=>nl e.symm⟩
 |cons w ws ih=>cases vs with
  |nil=>exact⟨ff,nl⟩
  |cons v vs=>exact⟨fun e=>by have e:=Bool.and_eq_true_iff.mp e;rw[Nat.eq_of_beq_eq_true e.1,ih.mp e.2],fun e=>Bool.and_eq_true_iff.mpr ⟨(List.cons.inj e).1▸Nat.beq_refl w,ih.mpr (List.cons.inj e).2⟩⟩
theorem eqm {h:H}(k:Nat):∀{ws vs:List Nat},Yq (eqV h (k+3)) (ws.map kOf) (vs.map kOf)=some (eqW ws vs)
 |[],[]=>rfl
 |[],_::_=>rfl
 |_::_,[]=>rfl
 |w::ws,v::vs=>by
  simp only[List.map_cons,List.map_cons,Yq,eqk,eqm]
  rfl
theorem eqT {h:H}{n m:Nat}{ws vs:List Nat}:eqV h EQ (Ql n ws) (Ql m vs)=some (Nat.beq n m&&eqW ws vs):=by
 have e:eqV h 5 (.tup (fOf n::ws.map kOf)) (.tup (fOf m::vs.map kOf))=some (Nat.beq n m&&eqW ws vs):=by
  show(match eqV h 4 (fOf n) (fOf m)with|some a=>(match Yq (eqV h 4) (ws.map kOf) (vs.map kOf)with|some b=>some (a&&b)|none=>none)|none=>none)=_
  rw[eqf 2,eqm 1]
 show(match eqV h 5 (.sym 1) (.sym 1)with|some a=>(match (match eqV h 5 (.tup (fOf n::ws.map kOf)) (.tup (fOf m::vs.map kOf))with|some a=>(match Yq (eqV h 5) [.none] [.none]with|some b=>some (a&&b)|none=>none)|none=>none)with|some b=>some (a&&b)|none=>none)|none=>none)=_
 rw[e]
 show some (true&&((Nat.beq n m&&eqW ws vs)&&(true&&true)))=_
 simp
theorem Q4 {t:Tg}{body:SX}{src:Src}{C:CT}{ns:List Int}{K:Nat}{items:Nat→PV}(St:Nat→Lc→H→Prop)(Rt:PV→H→Prop)
  (hs:∀i ρ h,St i ρ h→YQ h i src=some (if i<K then some (items i)else none))
  (hb:∀i ρ h,i<K→St i ρ h→∃ρ₁,ZY t (items i) ρ=some ρ₁∧∃fl ρ' h',body C ns ρ₁ h=some ((fl,ρ'),h')∧((∃v,fl=.ret v∧Rt v h')∨((fl=.nxt∨fl=.cnt)∧St (i+1) ρ' h'))):
  ∀(k i n:Nat) (ρ:Lc) (h:H),i+k=K→k<n→St i ρ h→∃fl ρ' h',YF t body n src i C ns ρ h=some ((fl,ρ'),h')∧((∃v,fl=.ret v∧Rt v h')∨(fl=.nxt∧St K ρ' h'))
 |0,i,n,ρ,h,e,hn,S=>by
  clear hb;refine q2 K n ?_;intro Q;obtain⟨n,rfl⟩:∃m,n=m+1:=⟨n - 1,by omega⟩
  have:i=K:=e
  clear e;subst this
  exact⟨.nxt,ρ,h,FE (by rw[hs _ _ _ S,if_neg (Nat.lt_irrefl _)]),Or.inr ⟨rfl,S⟩⟩
 |k+1,i,n,ρ,h,e,hn,S=>by
  refine q1 n ?_;intro Q;obtain⟨n,rfl⟩:∃m,n=m+1:=⟨n - 1,by omega⟩
  have lt:i<K:=by exact o82 e
  obtain⟨ρ₁,p,fl,ρ',h',b,r⟩:=hb i ρ h lt S
  have s:YQ h i src=some (some (items i)):=by rw[hs _ _ _ S,if_pos lt]
  rcases r with ⟨v,rfl,r⟩|⟨q,S'⟩
  ·exact⟨_,_,_,Hv s p b Xr,Or.inl ⟨v,rfl,r⟩⟩
  ·obtain⟨fl',ρ₂,h₂,e',r'⟩:=Q4 St Rt hs hb k (i+1) n ρ' h' ((Nat.add_right_comm i 1 k).trans e) (Nat.lt_of_succ_lt_succ hn) S'
   refine⟨fl',ρ₂,h₂,Hv s p b ?_,r'⟩
   clear b;rcases q with rfl|rfl<;>exact e'
section
variable {ns:List Int} {n:Nat} {h:H} {s z zr:Nat} {fu:Int}
theorem QbF (hn:1≤n)(K:KI h){w:Nat}(hw:Wd w):Qb ns n 47 [.loc 1,kOf w] h=some (.loc h.length,h++[AO.lst ((GH w).map kOf)]):=by
 refine q1 w ?_;intro Q;rcases hw with rfl|rfl|rfl|rfl
 ·exact Qbf hn K
 ·exact Xn hn K
 ·exact Xs hn K
 ·exact AS hn K
def FK:List SX:=[(sIf (tE (eEq (Qi (Qa 3) (Qj 1)) (Qi (Qa 2) (Qj 1)))) [(QA (QE [(QJ (OK (Qi (Qa 3) (Qj 2)) (Qi (Qa 2) (Qj 2))) (.many [4,5]) [] (QK [(Qs 18),(Qa 4),(Qa 5)]))]))] [])]
theorem Kh {g:H}{l:Nat}{us:List Nat}{C:CT}{z:PV}{w v:Nat}(hl:g[l]?=some (.lst (us.map kOf)))(hu:us.length<20):∃fl ρ' h',YF (.one 3) (QN FK) 64 (.lst l) 0 C ns [z,kOf w,kOf v,.unb,.unb,.unb] g=some ((fl,ρ'),h')∧((∃p,fl=.ret p∧(p=.loc (g++[AO.lst []]).length∧h'=g++[AO.lst []]++[AO.lst [.loc g.length]]∧us.any (Nat.beq v)=true))∨(fl=.nxt∧(h'=g∧(∃x,ρ'=[z,kOf w,kOf v,x,.unb,.unb])∧(us.take us.length).any (Nat.beq v)=false))):=by
 refine Q4 (K:=us.length) (items:=fun i=>kOf (us.getD i 0)) (fun i ρ h'=>h'=g∧(∃x,ρ=[z,kOf w,kOf v,x,.unb,.unb])∧(us.take i).any (Nat.beq v)=false) (fun p h'=>p=.loc (g++[AO.lst []]).length∧h'=g++[AO.lst []]++[AO.lst [.loc g.length]]∧us.any (Nat.beq v)=true) ?_ ?_ us.length 0 64 _ g (Nat.zero_add _) (by omega) ⟨rfl,⟨_,rfl⟩,rfl⟩
 ·rintro i ρ h' ⟨rfl,Z,Z⟩
  simp only[YJ hl,List.getElem?_map]
  split
  ·rename_i lt
   simp only[List.getElem?_eq_getElem lt,List.getD_eq_getElem?_getD,List.getElem?_eq_getElem lt]
   rfl
  ·rename_i lt
   rw[List.getElem?_eq_none (Nat.le_of_not_lt lt)]
   rfl
 ·intro i ρ h' lt hI;obtain⟨rfl,⟨x,rfl⟩,q⟩:=hI
  refine⟨[z,kOf w,kOf v,kOf (us.getD i 0),.unb,.unb],rfl,?_⟩
  refine q0 ?_;intro Q;have e:eqV h' EQ (.sym (us.getD i 0)) (.sym v)=some (Nat.beq (us.getD i 0) v):=rfl
  cases c:Nat.beq (us.getD i 0) v with
  |true=>
   rw[c]at e
   refine⟨_,_,_,(by unfold FK;walk_at "ss"),Or.inl ⟨_,rfl,rfl,rfl,?_⟩⟩
   rw[List.getD_eq_getElem?_getD,List.getElem?_eq_getElem lt]at c
   exact List.any_eq_true.mpr ⟨_,List.getElem_mem lt,by rw[←Nat.eq_of_beq_eq_true c];exact Nat.beq_refl _⟩
  |false=>
   rw[c]at e
   refine⟨_,_,_,(by unfold FK;walk_at "ss"),Or.inr ⟨Or.inl rfl,rfl,⟨_,rfl⟩,?_⟩⟩
   simp only[List.take_succ,List.any_append,q,List.getElem?_eq_getElem lt]
   rw[List.getD_eq_getElem?_getD,List.getElem?_eq_getElem lt]at c
   show(false||(Nat.beq v us[i]||false))=false
   have c:Nat.beq us[i] v=false:=c
   cases r:Nat.beq v us[i]with
   |false=>rfl
   |true=>rw[←Nat.eq_of_beq_eq_true r,Nat.beq_refl]at c;cases c
theorem LG (hn:2≤n)(K:KI h)(hs:h[s]?=some (.ins 1 [(4,.loc 1),(5,.int fu)])){w v:Nat}(hw:Wd w):
  ∃p h',Qb ns n 16 [.loc s,kOf w,kOf v] h=some (p,h')∧Way h h' p (if Yb w v then some []else none):=by
 have k1:=K.k1
 have su:=QbF (ns:=ns) (n:=n - 1) (h:=h) (by omega) K hw
 have lu:(GH w).length<20:=by clear su;rcases hw with rfl|rfl|rfl|rfl<;>decide
 obtain⟨fl,ρ',h',e,r⟩:=Kh (ns:=ns) (C:=Qb ns (n - 1)) (z:=.loc s) (w:=w) (v:=v) (Qe (h:=h)) lu
 rcases r with ⟨p,rfl,rfl,rfl,q⟩|⟨rfl,rfl,⟨x,rfl⟩,q⟩
 ·rw[show Yb w v=true from q]
  apply Q5
  ·omega
  ·rfl
  ·apply JH Ac
   apply Qt
   ·refine q0 ?_;intro Q;(with_reducible apply YG)
    ·walk_at "i"
    ·exact e
   ·exact BW
  ·walk_at "way"
 ·rw[List.take_length]at q
  rw[show Yb w v=false from q]
  apply Q5
  ·omega
  ·rfl
  ·apply JH Ac
   apply Qt
   ·(with_reducible apply YG)
    ·walk_at "i"
    ·exact e
   ·apply Q2
    walk_at "ss"
  ·walk_at "way"
theorem TZ (hn:3≤n)(K:KI h)(hs:h[s]?=some (.ins 1 [(4,.loc 1),(5,.int fu)])){w v:Nat}(hw:Wd w)(hv:Wd v)(ne:w≠v)(n9:v≠9):
  ∃p h',Qb ns n 15 [.loc s,kOf w,kOf v] h=some (p,h')∧Way h h' p (if Yb w v then some []else none):=by
 obtain⟨p,h',e,W⟩:=LG (ns:=ns) (n:=n - 1) (v:=v) (by omega) K hs hw
 exact Q5 (by omega) rfl (by(apply Qd Qag;(· walk_at "body");exact rfl)) W
theorem PY (hn:4≤n)(K:KI h)(hs:h[s]?=some (.ins 1 [(4,.loc 1),(5,.int fu)])){w v:Nat}(hw:Wd w)(hv:Wd v)(ne:w≠v)(n9:v≠9):
  ∃p h',Qb ns n 14 [.loc s,kOf w,kOf v,.loc z] h=some (p,h')∧Way h h' p (if Yb w v then some []else none):=by
 obtain⟨p,h',e,W⟩:=TZ (ns:=ns) (n:=n - 1) (by omega) K hs hw hv ne n9
 exact Q5 (by omega) rfl (by(apply Qd An;(· walk_at "body");exact rfl)) W
theorem Ps (hn:1≤n)(hz:h[z]?=some (.ins 0 [(0,.loc zr),(1,.int 0)]))(w:Nat):Qb ns n 5 [.loc z,kOf w] h=some (.bool false,h):=L_v hn rfl (by(apply Qd fr5;(· walk_at "body");exact rfl)) .refl rfl
end
end
section
theorem Nj {w:Nat}(hw:Wd w):Yb w w=true:=by rcases hw with rfl|rfl|rfl|rfl<;>rfl
theorem FO {w:Nat}(hw:Wd w):Yb w 9=true:=by rcases hw with rfl|rfl|rfl|rfl<;>rfl
section
variable {ns:List Int} {n:Nat} {h:H} {s z zr:Nat} {fu:Int}
theorem Vm (hn:1≤n)(m:Nat):∃p h',Qb ns n 13 [.loc s,YL (fOf m) (fOf m),.loc z] h=some (p,h')∧Way h h' p (some []):=by
 have he:eqV h EQ (fOf m) (fOf m)=some true:=by rw[show EQ=4+2 from rfl,eqf,Nat.beq_refl]
 apply Q5
 ·exact hn
 ·rfl
 ·(apply JH PM;walk_at "body")
 ·walk_at "way"
theorem X9 (hn:5≤n)(K:KI h)(hs:h[s]?=some (.ins 1 [(4,.loc 1),(5,.int fu)]))(hz:h[z]?=some (.ins 0 [(0,.loc zr),(1,.int 0)])){w v:Nat}(hw:Wd w)(hv:Wd v):
  ∃p h',Qb ns n 13 [.loc s,YL (kOf w) (kOf v),.loc z] h=some (p,h')∧Way h h' p (if Yb w v then some []else none):=by
 have he:eqV h EQ (kOf w) (kOf v)=some (Nat.beq w v):=eqk 3
 by_cases q:w=v
 ·subst q
  rw[Nj hw,if_pos rfl]
  rw[Nat.beq_refl]at he
  apply Q5
  ·omega
  ·rfl
  ·(apply JH PM;walk_at "body")
  ·walk_at "way"
 ·rw[Yo q]at he
  have hi:=CD (ns:=ns) (n:=n - 1) (h:=h) (by omega) w
  have ha:eqV h EQ (kOf v) Zb=some (Nat.beq v 9):=eqk 3
  by_cases q9:v=9
  ·subst q9
   rw[FO hw,if_pos rfl]
   rw[Nat.beq_refl]at ha
   apply Q5
   ·omega
   ·rfl
   ·(apply JH PM;walk_at "body")
   ·walk_at "way"
  ·rw[Yo q9]at ha
   have a1:=Ps (ns:=ns) (n:=n - 1) (by omega) hz w
   have a2:=Ps (ns:=ns) (n:=n - 1) (by omega) hz v
   obtain⟨p,h',e,W⟩:=PY (ns:=ns) (n:=n - 1) (z:=z) (by omega) K hs hw hv q q9
   exact Q5 (by omega) rfl (by(apply Qd PM;(· walk_at "body");exact rfl)) W
end
end
section
section
variable {ns:List Int} {n:Nat} {h:H} {s z zr:Nat} {fu:Int}
theorem Rm (hn:2≤n)(m w v:Nat):∃p h',Qb ns n 18 [Ql m [w],Ql m [v]] h=some (p,h')∧Way h h' p (some [YL (fOf m) (fOf m),YL (kOf w) (kOf v)]):=by
 have t1:=KZ (ns:=ns) (n:=n - 1) (h:=h) (by omega) m w
 have t2:=KZ (ns:=ns) (n:=n - 1) (h:=h) (by omega) m v
 apply Q5
 ·omega
 ·rfl
 ·(apply JH TY;walk_at "body")
 ·walk_at "way"
theorem RR (hn:2≤n)(m w w' v v':Nat):∃p h',Qb ns n 18 [Ql m [w,w'],Ql m [v,v']] h=some (p,h')∧Way h h' p (some [YL (fOf m) (fOf m),YL (kOf w) (kOf v),YL (kOf w') (kOf v')]):=by
 have t1:=L6 (ns:=ns) (n:=n - 1) (h:=h) (by omega) m w w'
 have t2:=L6 (ns:=ns) (n:=n - 1) (h:=h) (by omega) m v v'
 apply Q5
 ·omega
 ·rfl
 ·(apply JH TY;walk_at "body")
 ·walk_at "way"
theorem RO (hn:2≤n)(m w v v':Nat):∃p h',Qb ns n 18 [Ql m [w],Ql m [v,v']] h=some (p,h')∧Way h h' p none:=by
 have t1:=KZ (ns:=ns) (n:=n - 1) (h:=h) (by omega) m w
 have t2:=L6 (ns:=ns) (n:=n - 1) (h:=h) (by omega) m v v'
 apply Q5
 ·omega
 ·rfl
 ·(apply JH TY;walk_at "body")
 ·walk_at "way"
theorem R3 (hn:2≤n)(m w w' v:Nat):∃p h',Qb ns n 18 [Ql m [w,w'],Ql m [v]] h=some (p,h')∧Way h h' p none:=by
 have t1:=L6 (ns:=ns) (n:=n - 1) (h:=h) (by omega) m w w'
 have t2:=KZ (ns:=ns) (n:=n - 1) (h:=h) (by omega) m v
 apply Q5
 ·omega
 ·rfl
 ·(apply JH TY;walk_at "body")
 ·walk_at "way"
def L12 (ws:List Nat):Prop:=(∃w,ws=[w])∨∃w v,ws=[w,v]
def B9 (m:Nat)(ws vs:List Nat):Option (List PV):=if ws.length=vs.length then some (YL (fOf m) (fOf m)::(ws.zip vs).map fun q=>YL (kOf q.1) (kOf q.2))else none
theorem X6 (hn:2≤n)(m:Nat){ws vs:List Nat}(hw:L12 ws)(hv:L12 vs):∃p h',Qb ns n 18 [Ql m ws,Ql m vs] h=some (p,h')∧Way h h' p (B9 m ws vs):=by
 refine q2 ws vs ?_;intro Q;rcases hw with ⟨w,rfl⟩|⟨w,w',rfl⟩<;>rcases hv with ⟨v,rfl⟩|⟨v,v',rfl⟩
 ·exact Rm hn m w v
 ·exact RO hn m w v v'
 ·exact R3 hn m w w' v
 ·exact RR hn m w w' v v'
theorem SA (hn:3≤n)(hs:h[s]?=some (.ins 1 [(4,.loc 1),(5,.int fu)]))(m:Nat){ws vs:List Nat}(hw:L12 ws)(hv:L12 vs):∃p h',Qb ns n 15 [.loc s,Ql m ws,Ql m vs] h=some (p,h')∧Way h h' p (B9 m ws vs):=by
 obtain⟨p,h',e,W⟩:=X6 (ns:=ns) (n:=n - 1) (h:=h) (by omega) m hw hv
 exact Q5 (by omega) rfl (by(apply Qd Qag;(· walk_at "body");exact rfl)) W
theorem PB (hn:4≤n)(hs:h[s]?=some (.ins 1 [(4,.loc 1),(5,.int fu)]))(m:Nat){ws vs:List Nat}(hw:L12 ws)(hv:L12 vs):∃p h',Qb ns n 14 [.loc s,Ql m ws,Ql m vs,.loc z] h=some (p,h')∧Way h h' p (B9 m ws vs):=by
 obtain⟨p,h',e,W⟩:=SA (ns:=ns) (n:=n - 1) (by omega) hs m hw hv
 exact Q5 (by omega) rfl (by(apply Qd An;(· walk_at "body");exact rfl)) W
theorem Ar (hn:1≤n)(m:Nat){ws:List Nat}(hw:L12 ws):Qb ns n 8 [Ql m ws] h=some (.bool false,h):=by
 refine q1 ws ?_;intro Q;rcases hw with ⟨w,rfl⟩|⟨w,w',rfl⟩
 ·exact QbO hn m w
 ·exact QaZ hn m w w'
theorem H1 (hn:1≤n)(hz:h[z]?=some (.ins 0 [(0,.loc zr),(1,.int 0)]))(m:Nat)(ws:List Nat):Qb ns n 5 [.loc z,Ql m ws] h=some (.bool false,h):=L_v hn rfl (by(apply Qd fr5;(· walk_at "body");exact rfl)) .refl rfl
theorem Vk (hn:5≤n)(hs:h[s]?=some (.ins 1 [(4,.loc 1),(5,.int fu)]))(hz:h[z]?=some (.ins 0 [(0,.loc zr),(1,.int 0)]))(m:Nat){ws vs:List Nat}(hw:L12 ws)(hv:L12 vs)(ne:ws≠vs):
  ∃p h',Qb ns n 13 [.loc s,YL (Ql m ws) (Ql m vs),.loc z] h=some (p,h')∧Way h h' p (B9 m ws vs):=by
 have he:eqV h EQ (Ql m ws) (Ql m vs)=some false:=by
  rw[eqT]
  cases q:eqW ws vs with
  |false=>simp
  |true=>exact absurd (Q7.mp q) ne
 have hi:=Ar (ns:=ns) (n:=n - 1) (h:=h) (by omega) m hw
 have a1:=H1 (ns:=ns) (n:=n - 1) (by omega) hz m ws
 have a2:=H1 (ns:=ns) (n:=n - 1) (by omega) hz m vs
 obtain⟨p,h',e,W⟩:=PB (ns:=ns) (n:=n - 1) (z:=z) (by omega) hs m hw hv
 exact Q5 (by omega) rfl (by(apply Qd PM;(· walk_at "body");exact rfl)) W
end
end
section
def Gz:List SX:=[(sAttr (Qa 0) 5 (PH (Qk (Qa 0) 5) (Qj 1))),(sSet 4 (eIf (tE (eGe (Qk (Qa 0) 5) (Qj 0))) (Qx (Qa 0) 7 [(IW (Qa 1)),(Qa 2)]) (QE []))),(sIf (tE (eEq (Qa 4) (QE []))) [(QA QT)] []),(YK (.one 5) (QO (Bc (Qa 4))) [Qq]),(sExp (J3 (Qa 1) (Qi (Qa 4) (Qj 0))))]
section
variable {ns:List Int} {n:Nat} {h h0:H} {s z zr lf wt:Nat} {fu:Int} {gs new:List PV} {g x4 x5:PV}
theorem KI.same {h':H}(K:KI h)(e:∀k,k<32→h'[k]?=h[k]?):KI h':=by
 obtain⟨k,a,b,t⟩:=K
 have l31:h'[31]?≠none:=by rw[e 31 (by omega)];simp;omega
 refine⟨?_,a,b,?_⟩
 ·rcases Nat.lt_or_ge h'.length 32 with q|q
  ·exact absurd (List.getElem?_eq_none (by exact o181 q)) l31
  ·exact q
 ·rw[←t]
  apply List.ext_getElem?
  intro i
  simp only[List.getElem?_take,List.getElem?_take]
  split
  ·exact e i ‹_›
  ·rfl
structure SSt (h0 h:H) (s lf z zr wt:Nat) (fu:Int) (gs:List PV):Prop where
 ext:Ext h0 h
 k:KI h
 lo:32≤h0.length
 ls:h0.length≤s
 ll:h0.length≤lf
 ne:s≠lf
 hs:h[s]?=some (.ins 1 [(4,.loc 1),(5,.int fu)])
 hl:h[lf]?=some (.lst gs)
 hz:h[z]?=some (.ins 0 [(0,.loc zr),(1,.int 0)])
 hr:h[zr]?=some (.dct [])
 nw:wt≠lf
 hw:h[wt]?=some (.lst [])
theorem Gc (S:SSt h0 h s lf z zr wt fu (gs++[g])):∃h₁ h₂,Y0 h s (.ins 1 [(4,.loc 1),(5,.int (fu - 1))]) h₁∧Y0 h₁ lf (.lst (gs++[g]).dropLast) h₂∧h₁[s]?=some (.ins 1 [(4,.loc 1),(5,.int (fu - 1))])∧h₁[lf]?=some (.lst (gs++[g]))∧SSt h0 h₂ s lf z zr wt (fu - 1) (gs++[g]).dropLast:=by
 refine q0 ?_;intro Q;obtain⟨E,K,lo,ls,ll,ne,hs,hl,hz,hr,nw,hw⟩:=S
 obtain⟨h1,r1,a1,b1,c1,d1⟩:=QC hs (.ins 1 [(4,.loc 1),(5,.int (fu - 1))])
 have hl1:=(b1 lf (Ne.symm ne)).trans hl
 obtain⟨h2,r2,a2,b2,c2,d2⟩:=QC hl1 (.lst (gs++[g]).dropLast)
 have zs:z≠s:=fun q=>by rw[q,hs]at hz;cases hz
 have zl:z≠lf:=fun q=>by rw[q,hl]at hz;cases hz
 have rs:zr≠s:=fun q=>by rw[q,hs]at hr;cases hr
 have rl:zr≠lf:=fun q=>by rw[q,hl]at hr;cases hr
 have ws:wt≠s:=fun q=>by rw[q,hs]at hw;cases hw
 exact⟨h1,h2,r1,r2,a1,hl1,d2 h0 (d1 h0 E ls) ll,K.same fun k hk=>(b2 k (by exact o54 lo ll hk)).trans (b1 k (by exact o54 lo ls hk)),lo,ls,ll,ne,(b2 s ne).trans a1,a2,(b2 z zl).trans ((b1 z zs).trans hz),(b2 zr rl).trans ((b1 zr rs).trans hr),nw,(b2 wt nw).trans ((b1 wt ws).trans hw)⟩
theorem Yu {ps:List PV}(k:ps.length≤5000):QG ps=true:=Nat.ble_eq_true_of_le (by unfold CAP;omega)
theorem Tx (S:SSt h0 h s lf z zr wt fu (gs++[g]))(hf:0<fu)(sh:(gs++[g]).length≤50)(sn:new.length≤50)
  (STEP:∀h',KI h'→h'[s]?=some (.ins 1 [(4,.loc 1),(5,.int (fu - 1))])→h'[z]?=some (.ins 0 [(0,.loc zr),(1,.int 0)])→∃p h'',Qb ns n 13 [.loc s,g,.loc z] h'=some (p,h'')∧Way h' h'' p (some new)):
  ∃x4' h',QN Gz (Qb ns n) ns [.loc s,.loc lf,.loc z,.loc wt,x4,x5] h=some ((.nxt,[.loc s,.loc lf,.loc z,.loc wt,x4',x5]),h')∧SSt h0 h' s lf z zr wt (fu - 1) (gs++new):=by
 refine q0 ?_;intro Q;obtain⟨h1,h2,r1,r2,a1,hl1,S2⟩:=Gc S
 have hs:=S.hs
 obtain⟨E,K,lo,ls,ll,ne,hs2,hl2,hz2,hr2,nw,hw2⟩:=S2
 obtain⟨p,h3,e,X,l,l',w1,w2,rfl,w3,w4⟩:=STEP h2 K hs2 hz2
 have hl3:=X.get hl2
 obtain⟨h4,r4,a4,b4,c4,d4⟩:=QC hl3 (.lst ((gs++[g]).dropLast++new))
 have hgl:(gs++[g]).getLast?=some g:=by simp
 have k1:QG (gs++[g])=true:=Yu (by omega)
 have k2:QG (gs++[g]).dropLast=true:=Yu (by simp at sh ⊢;omega)
 have k3:QG new=true:=Yu (by omega)
 have hd:decide (0≤fu - 1)=true:=by simp;omega
 have hlt:=Qc hl2
 have hne:Nat.beq lf l'=false:=Yo (by exact o36 hlt w2)
 have zl:z≠lf:=fun q=>by rw[q,hl2]at hz2;cases hz2
 have rl:zr≠lf:=fun q=>by rw[q,hl2]at hr2;cases hr2
 refine⟨.loc l,h4++[.lst []]++[.lst []],?_,?_⟩
 ·unfold Gz
  walk_at "ss"
 ·have E3:Ext h0 h3:=E.trans X
  have:=(d4 h0 E3 ll)
  refine⟨this.snoc.snoc,((K.ext X).same fun k hk=>?_),lo,ls,ll,ne,Qf (Qf ((b4 s ne).trans (X.get hs2))),Qf (Qf ?_),Qf (Qf ((b4 z zl).trans (X.get hz2))),Qf (Qf ((b4 zr rl).trans (X.get hr2))),nw,Qf (Qf ((b4 wt nw).trans (X.get hw2)))⟩
  ·rw[List.append_assoc,List.getElem?_append_left (by rw[c4];have:=(K.ext X).1;omega)]
   exact b4 k (by exact o54 lo ll hk)
  ·rw[a4,List.dropLast_concat]
end
end
section
section
variable {ns:List Int} {n f:Nat} {h h' h0:H} {s z zr lf wt:Nat} {fu:Int} {gs new:List PV} {g x4 x5 p:PV} {ps:List PV}
theorem Jr (P:H→Prop)(hn:1≤n)(lo:Jb f=false)(e:Q0 (Qb ns (n - 1)) ns f ps h=some (p,h'))(lp:Yp h.length p=true)(E:P h)(E':P h'):∃h₂,Qb ns n f ps h=some (p,h₂)∧P h₂:=by
 obtain⟨m,rfl⟩:∃m,n=m+1:=⟨n - 1,by omega⟩
 simp only[N8 lo,show Q0 (Qb ns m) ns f ps h=some (p,h')from e,Option.map_some]
 unfold gcU
 split
 ·exact⟨h,rfl,E⟩
 ·exact⟨h',rfl,E'⟩
theorem Rs (S:SSt h0 h s lf z zr wt fu (gs++[g]))(hf:0<fu)(sh:(gs++[g]).length≤50)
  (STEP:∀h',KI h'→h'[s]?=some (.ins 1 [(4,.loc 1),(5,.int (fu - 1))])→h'[z]?=some (.ins 0 [(0,.loc zr),(1,.int 0)])→∃p h'',Qb ns n 13 [.loc s,g,.loc z] h'=some (p,h'')∧Way h' h'' p none):
  ∃x4' h',QN Gz (Qb ns n) ns [.loc s,.loc lf,.loc z,.loc wt,x4,x5] h=some ((.ret .none,[.loc s,.loc lf,.loc z,.loc wt,x4',x5]),h')∧Ext h0 h'∧h'[wt]?=some (.lst [])∧h'[s]?=some (.ins 1 [(4,.loc 1),(5,.int (fu - 1))]):=by
 refine q0 ?_;intro Q;obtain⟨h1,h2,r1,r2,a1,hl1,S2⟩:=Gc S
 have hs:=S.hs
 obtain⟨E,K,lo,ls,ll,ne,hs2,hl2,hz2,hr2,nw,hw2⟩:=S2
 obtain⟨p,h3,e,X,l,w1,rfl,w3⟩:=STEP h2 K hs2 hz2
 have hgl:(gs++[g]).getLast?=some g:=by simp
 have k1:QG (gs++[g])=true:=Yu (by omega)
 have hd:decide (0≤fu - 1)=true:=by simp;omega
 refine⟨.loc l,h3++[.lst []],?_,(E.trans X).snoc,Qf (X.get hw2),Qf (X.get hs2)⟩
 unfold Gz
 walk_at "ss"
def U8 (ns:List Int)(n:Nat)(g:PV)(r:Option (List PV)):Prop:=
 ∀s z zr fu h',KI h'→h'[s]?=some (.ins 1 [(4,.loc 1),(5,.int fu)])→h'[z]?=some (.ins 0 [(0,.loc zr),(1,.int 0)])→∃p h'',Qb ns n 13 [.loc s,g,.loc z] h'=some (p,h'')∧Way h' h'' p r
inductive Run (ns:List Int) (n:Nat):Nat→List PV→Bool→Prop
 |nil {k:Nat}:Run ns n k [] true
 |no {k:Nat} {gs:List PV} {g:PV}:(gs++[g]).length≤50→U8 ns n g none→Run ns n (k+1) (gs++[g]) false
 |ok {k:Nat} {gs new:List PV} {g:PV} {r:Bool}:(gs++[g]).length≤50→new.length≤50→U8 ns n g (some new)→Run ns n k (gs++new) r→Run ns n (k+1) (gs++[g]) r
theorem Rc {k:Nat}{r:Bool}(R:Run ns n k gs r):∀{h:H} {fu:Int} {x4:PV} {m:Nat},SSt h0 h s lf z zr wt fu gs→(k:Int)≤fu→k<m→
  ∃fl x4' h',YX (tE (eNe (Qa 1) (QE []))) (QN Gz) m (Qb ns n) ns [.loc s,.loc lf,.loc z,.loc wt,x4,x5] h=some ((fl,[.loc s,.loc lf,.loc z,.loc wt,x4',x5]),h')∧Ext h0 h'∧
   h'[wt]?=some (.lst [])∧(∃fu',h'[s]?=some (.ins 1 [(4,.loc 1),(5,.int fu')]))∧(r=true→fl=.nxt∧h'[z]?=some (.ins 0 [(0,.loc zr),(1,.int 0)])∧h'[zr]?=some (.dct []))∧(r=false→fl=.ret .none):=by
 induction R with
 |nil=>
  intro h fu x4 m S hf hm
  obtain⟨m,rfl⟩:∃m',m=m'+1:=⟨m - 1,by omega⟩
  have hl:=S.hl
  refine⟨.nxt,x4,h++[.lst []],?_,S.ext.snoc,Qf S.hw,⟨_,Qf S.hs⟩,fun Z=>⟨rfl,Qf S.hz,Qf S.hr⟩,nofun⟩
  walk_at "wl"
 |@no k gs g sh st=>
  intro h fu x4 m S hf hm
  refine q1 m ?_;intro Q;obtain⟨m,rfl⟩:∃m',m=m'+1:=⟨m - 1,by omega⟩
  have hl:=S.hl
  have S':SSt h0 (h++[.lst []]) s lf z zr wt fu (gs++[g]):=⟨S.ext.snoc,S.k.ext (.snoc .refl),S.lo,S.ls,S.ll,S.ne,Qf S.hs,Qf S.hl,Qf S.hz,Qf S.hr,S.nw,Qf S.hw⟩
  obtain⟨x,h',e,E,w,y⟩:=Rs (x4:=x4) (x5:=x5) (wt:=wt) S' (Int.lt_of_lt_of_le (Int.ofNat_lt.mpr (Nat.succ_pos k)) hf) sh (fun h' a b c=>st s z zr _ h' a b c)
  refine⟨.ret .none,x,h',?_,E,w,⟨_,y⟩,nofun,fun Z=>rfl⟩
  have q:Nat.beq (gs++[g]).length ([]:List PV).length=false:=Yo (by simp)
  have he:eqV (h++[.lst []]) EQ (.loc lf) (.loc h.length)=some false:=YU (Qf hl) Qe (by rw[q])
  refine VY ?_ (Vx (x:=!false) rfl (Vs e XA))
  walk_at "t"
 |@ok k gs new g r sh sn st R ih=>
  intro h fu x4 m S hf hm
  refine q1 m ?_;intro Q;obtain⟨m,rfl⟩:∃m',m=m'+1:=⟨m - 1,by omega⟩
  have hl:=S.hl
  have S':SSt h0 (h++[.lst []]) s lf z zr wt fu (gs++[g]):=⟨S.ext.snoc,S.k.ext (.snoc .refl),S.lo,S.ls,S.ll,S.ne,Qf S.hs,Qf S.hl,Qf S.hz,Qf S.hr,S.nw,Qf S.hw⟩
  obtain⟨x,h',e,S''⟩:=Tx (x4:=x4) (x5:=x5) (wt:=wt) S' (Int.lt_of_lt_of_le (Int.ofNat_lt.mpr (Nat.succ_pos k)) hf) sh sn (fun h' a b c=>st s z zr _ h' a b c)
  obtain⟨fl,x',h'',e',E,T⟩:=ih (x4:=x) (m:=m) S'' (Int.le_sub_right_of_add_le hf) (Nat.lt_of_succ_lt_succ hm)
  refine⟨fl,x',h'',?_,E,T⟩
  have q:Nat.beq (gs++[g]).length ([]:List PV).length=false:=Yo (by simp)
  have he:eqV (h++[.lst []]) EQ (.loc lf) (.loc h.length)=some false:=YU (Qf hl) Qe (by rw[q])
  refine VY ?_ (Vx (x:=!false) rfl (Vs e (Xo e')))
  walk_at "t"
end
end
section
theorem Ui {N l:Nat}(k:l<N):Yp N (.loc l)=true:=Nat.ble_eq_true_of_le k
section
variable {ns:List Int} {n f:Nat} {h h' h0:H} {s z zr lf wt gl:Nat} {fu:Int} {gs new:List PV} {g x4 x5 p:PV} {ps:List PV}
theorem DH (hn:1≤n)(hz:h[z]?=some (.ins 0 [(0,.loc zr),(1,.int 0)]))(hr:h[zr]?=some (.dct [])):Qb ns n 17 [.loc s,.loc z] h=some (.bool true,h):=
 L_v hn rfl (by(apply Qd QbG;(· walk_at "body");exact rfl)) (Ext.snoc .refl) rfl
theorem Hl {k:Nat}{r:Bool}(hn:2≤n)(S:SSt h0 h s lf z zr wt fu gs)(R:Run ns (n - 1) k gs r)(hf:(k:Int)≤fu)(hk:k<64):
  ∃h',Qb ns n 12 [.loc s,.loc lf,.loc z,.loc wt] h=some (cond r (.loc z) .none,h')∧Ext h0 h'∧h'[wt]?=some (.lst [])∧(∃fu',h'[s]?=some (.ins 1 [(4,.loc 1),(5,.int fu')])):=by
 refine q1 r ?_;intro Q;obtain⟨fl,x,h',e,E,w,⟨fu',y⟩,T,F⟩:=Rc (x4:=.unb) (x5:=.unb) R S hf hk
 clear R;have hl:=Qc S.hz
 cases r with
 |false=>
  clear T;have:=F rfl
  clear F;subst this
  exact Jr (fun h'=>Ext h0 h'∧h'[wt]?=some (.lst [])∧(∃fu',h'[s]?=some (.ins 1 [(4,.loc 1),(5,.int fu')]))) (by omega) rfl (JH A3 (Qt (O6 e) BW)) rfl ⟨S.ext,S.hw,_,S.hs⟩ ⟨E,w,_,y⟩
 |true=>
  clear F;obtain⟨rfl,hz,hr⟩:=T rfl
  have c:=DH (ns:=ns) (n:=n - 1) (s:=s) (by omega) hz hr
  have st:Q0 (Qb ns (n - 1)) ns 12 [.loc s,.loc lf,.loc z,.loc wt] h=some (.loc z,h'):=by
   apply Qd A3
   ·apply Qt (O6 e)
    apply Q2
    walk_at "ss"
   ·exact rfl
  exact Jr (fun h'=>Ext h0 h'∧h'[wt]?=some (.lst [])∧(∃fu',h'[s]?=some (.ins 1 [(4,.loc 1),(5,.int fu')]))) (by omega) rfl st (Ui hl) ⟨S.ext,S.hw,_,S.hs⟩ ⟨E,w,_,y⟩
theorem F9 {k:Nat}{r:Bool}(hn:3≤n)(R:Run ns (n - 2) k gs r)(hf:(k:Int)≤fu)(f0:0<fu)(hk:k<64)(sh:gs.length≤50)
  (E:Ext h0 h) (K:KI h) (lo:32≤h0.length) (ls:h0.length≤s) (hs:h[s]?=some (.ins 1 [(4,.loc 1),(5,.int fu)])) (hz:h[z]?=some (.ins 0 [(0,.loc zr),(1,.int 0)])) (hr:h[zr]?=some (.dct [])) (hg:h[gl]?=some (.lst gs)):
  ∃h',Qb ns n 11 [.loc s,.loc gl,.loc z] h=some (cond r (.loc z) .none,h')∧Ext h0 h':=by
 have k1:QG gs=true:=Yu (by omega)
 have hn0:Ext h0 ((h++[.lst gs])++[.lst []]):=E.snoc.snoc
 have hls:=Qc hs
 have el:=E.le
 have S:SSt h0 (h++[.lst gs]++[.lst []]++[.lst []]) s h.length z zr (h++[AO.lst gs]).length fu gs:=
  ⟨hn0.snoc,K.ext (.snoc (.snoc (.snoc .refl))),lo,ls,el,by exact o39 hls,Qf (Qf (Qf hs)),Qf (Qf Qe),Qf (Qf (Qf hz)),Qf (Qf (Qf hr)),by simp,Qf Qe⟩
 obtain⟨h',e,E',w,fu',y⟩:=Hl (n:=n - 1) (by omega) S R hf hk
 clear R;have zl:=Qc hz
 have hd:decide (0<fu)=true:=by simp;omega
 have he:eqV (h++[.lst gs]++[.lst [.tup [.loc h.length,.loc z]]]++[.lst []]) EQ (.loc (h++[AO.lst gs]).length) (.loc (h++[AO.lst gs]++[AO.lst [.tup [.loc h.length,.loc z]]]).length)=some false:=YU (Qf Qe) Qe rfl
 cases r with
 |false=>
  have st:Q0 (Qb ns (n - 1)) ns 11 [.loc s,.loc gl,.loc z] h=some (.none,h'++[.lst []]):=by
   apply Qd Aj
   ·walk_at "body"
   ·exact rfl
  exact Jr (Ext h0) (by omega) rfl st rfl E E'.snoc
 |true=>
  have st:Q0 (Qb ns (n - 1)) ns 11 [.loc s,.loc gl,.loc z] h=some (.loc z,h'):=by
   apply Qd Aj
   ·walk_at "body"
   ·exact rfl
  exact Jr (Ext h0) (by omega) rfl st (Ui zl) E E'
end
end
section
section
variable {ns:List Int} {n f:Nat} {h h' h0:H} {s z zr lf wt gl l:Nat} {fu:Int} {gs new:List PV} {g x4 x5 p one other:PV} {ps:List PV} {o o':AO}
theorem Zt (hn:1≤n)(lo:Jb f=false)(e:Q0 (Qb ns (n - 1)) ns f ps h=some (p,h'))(e1:h[l]?=some o)(e2:h'[l]?=some o')(ne:o≠o'):Qb ns n f ps h=some (p,h'):=by
 refine L_k hn lo e ?_
 unfold gcU
 dsimp only
 rw[if_neg]
 intro q
 have hl:=Qc e1
 have:(h'.take h.length)[l]?=h[l]?:=by rw[q]
 rw[List.getElem?_take,if_pos hl,e1,e2]at this
 exact ne (Option.some.inj this).symm
theorem LQ (hn:1≤n):Qb ns n 4 [.loc h.length] (h++[.ins 0 []])=some (.none,h++[.ins 0 [(0,.loc (h.length+1)),(1,.int 0)]]++[.dct []]):=by
 have q:(h++[AO.ins 0 []]).length=h.length+1:=by simp
 have st:Q0 (Qb ns (n - 1)) ns 4 [.loc h.length] (h++[.ins 0 []])=some (.none,h++[.ins 0 [(0,.loc (h.length+1)),(1,.int 0)]]++[.dct []]):=by
  rw[←q]
  apply Qd Qad
  ·walk_at "body"
  ·exact rfl
 exact Zt hn rfl st Qe (Qf Qe) (by intro q;cases q)
theorem PD (hn:1≤n):Qb ns n 10 [.loc h.length,.loc 1,.int fu] (h++[.ins 1 []])=some (.none,h++[.ins 1 [(4,.loc 1),(5,.int fu)]]):=by
 refine Zt hn rfl ?_ Qe Qe (by intro q;cases q)
 apply Qd QaY
 ·walk_at "body"
 ·exact rfl
theorem KO (hn:1≤n)(he:eqV h EQ one other=some true)(k1:J4 one=true)(k2:J4 other=true):Qb ns n 19 [.loc 1,one,other] h=some (.bool true,h):=by
 refine L_v hn rfl ?_ .refl rfl
 apply Qd GW
 ·walk_at "body"
 ·exact rfl
end
section
variable {ns:List Int} {n f:Nat} {h h' h0:H} {one other:PV}
theorem FJ {k:Nat}{r:Bool}(hn:4≤n)(K:KI h)(he:eqV h EQ one other=some false)(k1:J4 one=true)(k2:J4 other=true)
  (hc:Qb ns (n - 1) 6 [one] h=some (.loc h.length,h++[.lst [one]])) (R:Run ns (n - 3) k [YL one other] r) (hk:k<64):Qb ns n 19 [.loc 1,one,other] h=some (.bool r,h):=by
 have H:∀h4:H,h4=h++[AO.lst [one]]++[.ins 1 [(4,.loc 1),(5,.int 4000)]]++[.lst [YL one other]]++[.ins 0 [(0,.loc ((h++[AO.lst [one]]++[AO.ins 1 [(4,.loc 1),(5,.int 4000)]]++[AO.lst [YL one other]]).length+1)),(1,.int 0)]]++[.dct []]→
   ∃h',Qb ns (n - 1) 11 [.loc (h++[AO.lst [one]]).length,.loc (h++[AO.lst [one]]++[AO.ins 1 [(4,.loc 1),(5,.int 4000)]]).length,.loc (h++[AO.lst [one]]++[AO.ins 1 [(4,.loc 1),(5,.int 4000)]]++[AO.lst [YL one other]]).length] h4=some (cond r (.loc (h++[AO.lst [one]]++[AO.ins 1 [(4,.loc 1),(5,.int 4000)]]++[AO.lst [YL one other]]).length) .none,h')∧Ext (h++[AO.lst [one]]) h':=by
  intro h4 q
  subst q
  have q2:(h++[AO.lst [one]]++[AO.ins 1 [(4,.loc 1),(5,.int 4000)]]++[AO.lst [YL one other]]).length+1=(h++[AO.lst [one]]++[AO.ins 1 [(4,.loc 1),(5,.int 4000)]]++[AO.lst [YL one other]]++[AO.ins 0 [(0,.loc ((h++[AO.lst [one]]++[AO.ins 1 [(4,.loc 1),(5,.int 4000)]]++[AO.lst [YL one other]]).length+1)),(1,.int 0)]]).length:=by simp
  refine F9 (k:=k) (zr:=(h++[AO.lst [one]]++[AO.ins 1 [(4,.loc 1),(5,.int 4000)]]++[AO.lst [YL one other]]).length+1) (fu:=4000) (gs:=[YL one other]) (by omega) R (by exact o182 hk) (by decide) hk (by simp) (.snoc (.snoc (.snoc (.snoc .refl)))) (K.ext (.snoc (.snoc (.snoc (.snoc (.snoc .refl)))))) (by have:=K.1;simp;omega) (Nat.le_refl _) (Qf (Qf (Qf Qe))) (Qf Qe) ?_ (Qf (Qf Qe))
  exact Eq.trans (congrArg (fun i=>getElem? (_:H) i) q2) Qe
 clear R;obtain⟨h',e,E⟩:=H _ rfl
 clear H;have hl:h'[h.length]?=some (.lst [one]):=E.get Qe
 cases r with
 |false=>
  refine L_v (by omega) rfl ?_ (Ext.trans (.snoc .refl) E) rfl
  apply Qd GW
  ·walk_at "body"
  ·exact rfl
 |true=>
  refine L_v (by omega) rfl ?_ (Ext.trans (.snoc .refl) E) rfl
  apply Qd GW
  ·walk_at "body"
  ·exact rfl
end
end
section
def leW:List Nat→List Nat→Bool
 |[],vs=>vs.isEmpty
 |w::ws,vs=>match vs with
  |[]=>false
  |v::vs=>Yb w v&&leW ws vs
def Wds (ws:List Nat):Prop:=∀w∈ws,Wd w
section
variable {ns:List Int} {n f:Nat} {h h' h0:H} {one other:PV} {m:Nat} {ws vs:List Nat} {w v:Nat}
theorem WA {k:Nat}{gs:List PV}{g:PV}{b r:Bool}(sh:(gs++[g]).length≤50)(st:U8 ns n g (if b then some []else none))(R:Run ns n k gs r):Run ns n (k+1) (gs++[g]) (b&&r):=by
 cases b with
 |true=>exact .ok (new:=[]) sh (by simp) (by exact st) (by simpa using R)
 |false=>exact .no sh (by exact st)
theorem Rj (hn:5≤n)(hw:Wd w)(hv:Wd v):U8 ns n (YL (kOf w) (kOf v)) (if Yb w v then some []else none):=fun s z zr fu h' K a b=>X9 hn K a b hw hv
theorem AQ (hn:1≤n):U8 ns n (YL (fOf m) (fOf m)) (some []):=fun s z zr fu h' K a b=>Vm hn m
theorem Az (hn:5≤n)(hw:Wd w)(hv:Wd v):Run ns n 1 [YL (kOf w) (kOf v)] (Yb w v):=by
 have:=WA (gs:=[]) (by simp) (Rj (ns:=ns) hn hw hv) (.nil (k:=0))
 simp only[Bool.and_true]at this
 exact this
theorem Xh (hn:8≤n)(K:KI h)(hw:Wd w)(hv:Wd v):Qb ns n 19 [.loc 1,kOf w,kOf v] h=some (.bool (Yb w v),h):=by
 have e:=eqk (h:=h) (w:=w) (v:=v) 3
 cases q:Nat.beq w v with
 |true=>
  clear hv;rw[q]at e
  have:=Nat.eq_of_beq_eq_true q
  clear q;subst this
  rw[Nj hw]
  exact KO (by omega) e rfl rfl
 |false=>
  rw[q]at e
  exact FJ (by omega) K e rfl rfl (Qa8 (by omega) w) (Az (by omega) hw hv) (by omega)
theorem Xk (hn:5≤n)(hw:L12 ws)(hv:L12 vs)(dw:Wds ws)(dv:Wds vs)(ne:ws≠vs):Run ns n 4 [YL (Ql m ws) (Ql m vs)] (leW ws vs):=by
 refine q2 ws vs ?_;intro Q;have st:U8 ns n (YL (Ql m ws) (Ql m vs)) (B9 m ws vs):=fun s z zr fu h' K a b=>Vk hn a b m hw hv ne
 clear ne;rcases hw with ⟨w,rfl⟩|⟨w,w',rfl⟩<;>rcases hv with ⟨v,rfl⟩|⟨v,v',rfl⟩
 ·refine Run.ok (gs:=[]) (new:=[YL (fOf m) (fOf m),YL (kOf w) (kOf v)]) (by simp) (by simp) st ?_
  have a:=WA (gs:=[YL (fOf m) (fOf m)]) (by simp) (Rj (ns:=ns) hn (dw w (by simp)) (dv v (by simp))) (WA (b:=true) (gs:=[]) (by simp) (AQ (by omega)) (.nil (k:=1)))
  simpa [leW]using a
 ·dsimp only[Q];rw[show leW [w] [v,v']=false by simp[leW]]
  exact Run.no (gs:=[]) (by simp) st
 ·dsimp only[Q];rw[show leW [w,w'] [v]=false by simp[leW]]
  exact Run.no (gs:=[]) (by simp) (by
   have:B9 m [w,w'] [v]=none:=rfl
   simp only[this]at st
   exact st)
 ·refine Run.ok (gs:=[]) (new:=[YL (fOf m) (fOf m),YL (kOf w) (kOf v),YL (kOf w') (kOf v')]) (by simp) (by simp) st ?_
  have a:=WA (gs:=[YL (fOf m) (fOf m),YL (kOf w) (kOf v)]) (by simp) (Rj (ns:=ns) hn (dw w' (by simp)) (dv v' (by simp))) (WA (gs:=[YL (fOf m) (fOf m)]) (by simp) (Rj (ns:=ns) hn (dw w (by simp)) (dv v (by simp))) (WA (b:=true) (gs:=[]) (by simp) (AQ (by omega)) (.nil (k:=0))))
  simp only[Bool.and_true]at a
  simp only[leW,List.isEmpty_nil,Bool.and_true]
  rw[Bool.and_comm]
  exact a
theorem QbP (hn:1≤n)(hw:L12 ws):Qb ns n 6 [Ql m ws] h=some (.loc h.length,h++[.lst [Ql m ws]]):=by
 refine q1 ws ?_;intro Q;rcases hw with ⟨w,rfl⟩|⟨w,w',rfl⟩
 ·exact QbI hn m w
 ·exact Qaq hn m w w'
theorem Bw:∀{ws:List Nat},Wds ws→leW ws ws=true
 |[],_=>rfl
 |w::ws,d=>Bool.and_eq_true_iff.mpr ⟨Nj (d w (.head _)),Bw fun x hx=>d x (.tail _ hx)⟩
theorem BP (ne:ws≠vs):eqV h EQ (Ql m ws) (Ql m vs)=some false:=by
 rw[eqT]
 cases q:eqW ws vs with
 |false=>simp
 |true=>exact absurd (Q7.mp q) ne
theorem BI:eqV h EQ (Ql m ws) (Ql m ws)=some true:=by
 simp only[eqT,Nat.beq_refl,Q7.mpr rfl]
 rfl
theorem UH (hn:8≤n)(K:KI h)(hw:L12 ws)(hv:L12 vs)(dw:Wds ws)(dv:Wds vs):Qb ns n 19 [.loc 1,Ql m ws,Ql m vs] h=some (.bool (leW ws vs),h):=by
 by_cases ne:ws=vs
 ·subst ne
  rw[Bw dw]
  exact KO (by omega) BI rfl rfl
 ·exact FJ (by omega) K (BP ne) rfl rfl (QbP (by omega) hw) (Xk (by omega) hw hv dw dv ne) (by omega)
theorem OG (hw:Wd w)(hv:Wd v)(a:Yb w v=true)(b:Yb v w=true):w=v:=by
 rcases hw with rfl|rfl|rfl|rfl<;>rcases hv with rfl|rfl|rfl|rfl<;>first|rfl|exact absurd a (by decide)|exact absurd b (by decide)
theorem Ws {ws vs:List Nat}(dw:Wds ws)(dv:Wds vs)(a:leW ws vs=true)(b:leW vs ws=true):ws=vs:=by
 induction ws generalizing vs with
 |nil=>cases vs with
  |nil=>rfl
  |cons _ _=>exact ff a
 |cons w ws ih=>cases vs with
  |nil=>exact ff a
  |cons v vs=>
   have a:=Bool.and_eq_true_iff.mp a
   have b:=Bool.and_eq_true_iff.mp b
   rw[OG (dw w (.head _)) (dv v (.head _)) a.1 b.1,ih (fun x hx=>dw x (.tail _ hx)) (fun x hx=>dv x (.tail _ hx)) a.2 b.2]
theorem EP (hn:9≤n)(K:KI h)(hw:L12 ws)(hv:L12 vs)(dw:Wds ws)(dv:Wds vs):Qb ns n 20 [.loc 1,Ql m ws,Ql m vs] h=some (.bool (eqW ws vs),h):=by
 by_cases ne:ws=vs
 ·subst ne
  have e:eqV h EQ (Ql m ws) (Ql m ws)=some true:=BI
  rw[Q7.mpr rfl]
  refine L_v (by omega) rfl ?_ .refl rfl
  apply Qd VK
  ·walk_at "body"
  ·exact rfl
 ·have e:eqV h EQ (Ql m ws) (Ql m vs)=some false:=BP ne
  have s1:=UH (ns:=ns) (n:=n - 1) (m:=m) (by omega) K hw hv dw dv
  have s2:=UH (ns:=ns) (n:=n - 1) (m:=m) (by omega) K hv hw dv dw
  have f:eqW ws vs=false:=by
   cases q:eqW ws vs with
   |false=>rfl
   |true=>exact absurd (Q7.mp q) ne
  rw[f]
  refine L_v (by omega) rfl ?_ .refl rfl
  cases q1:leW ws vs with
  |false=>
   rw[q1]at s1
   apply Qd VK
   ·walk_at "body"
   ·exact rfl
  |true=>
   cases q2:leW vs ws with
   |true=>exact absurd (Ws dw dv q1 q2) ne
   |false=>
    rewrite [q1]at s1
    rewrite [q2]at s2
    apply Qd VK
    ·walk_at "body"
    ·exact rfl
theorem LJ (hn:1≤n){x:PV}(hx:∀h,eqV h EQ x x=some true)(k:J4 x=true):U8 ns n (YL x x) (some []):=by
 intro s z zr fu h' K hs hz
 have he:=hx h'
 apply Q5
 ·exact hn
 ·rfl
 ·(apply JH PM;walk_at "body")
 ·walk_at "way"
theorem Vz (hn:5≤n)(hw:L12 ws)(hv:L12 vs)(dw:Wds ws)(dv:Wds vs):Run ns n 4 [YL (Ql m ws) (Ql m vs)] (leW ws vs):=by
 by_cases ne:ws=vs
 ·subst ne
  rw[Bw dw]
  exact Run.ok (gs:=[]) (new:=[]) (by simp) (by simp) (LJ (by omega) (fun h=>BI) rfl) .nil
 ·exact Xk hn hw hv dw dv ne
theorem DY (hn:9≤n)(K:KI h)(hw:L12 ws)(hv:L12 vs)(dw:Wds ws)(dv:Wds vs):∃h',Q0 (Qb ns (n - 1)) ns 21 [.loc 1,Ql m ws,Ql m vs] h=some (cond (leW ws vs) (.loc h'.length) .none,cond (leW ws vs) (h'++[.dct []]) h')∧Ext h h':=by
 refine q0 ?_;intro Q;have R:Run ns (n - 1 - 2) 4 [YL (Ql m ws) (Ql m vs)] (leW ws vs):=Vz (by exact o183 hn) hw hv dw dv
 have H:∀H4 HX:H,H4=h++[AO.ins 0 [(0,.loc (h.length+1)),(1,.int 0)]]++[.dct []]++[.lst []]++[.lst []]→HX=H4++[AO.ins 1 [(4,.loc 1),(5,.int 4000)]]++[AO.lst [YL (Ql m ws) (Ql m vs)]]++[AO.lst [YL (Ql m ws) (Ql m vs)]]→
   ∃h',Qb ns (n - 1) 11 [.loc H4.length,.loc (H4++[AO.ins 1 [(4,.loc 1),(5,.int 4000)]]++[AO.lst [YL (Ql m ws) (Ql m vs)]]).length,.loc h.length] HX=some (cond (leW ws vs) (.loc h.length) .none,h')∧Ext H4 h':=by
  intro H4 HX q q'
  subst q'
  have q2:h.length+1=(h++[AO.ins 0 [(0,.loc (h.length+1)),(1,.int 0)]]).length:=by simp
  have E4:Ext h H4:=by rw[q];exact .snoc (.snoc (.snoc (.snoc .refl)))
  refine F9 (k:=4) (zr:=h.length+1) (fu:=4000) (gs:=[YL (Ql m ws) (Ql m vs)]) (by omega) R (by exact o184) (by decide) (by omega) (by simp) (.snoc (.snoc (.snoc .refl))) (K.ext (.snoc (.snoc (.snoc E4)))) (by have:=K.1;have:=E4.le;omega) (Nat.le_refl _) (Qf (Qf Qe)) (Qf (Qf (Qf ?_))) (Qf (Qf (Qf ?_))) Qe
  ·rw[q]
   exact Qf (Qf (Qf Qe))
  ·rw[q]
   exact Qf (Qf (Eq.trans (congrArg (fun i=>getElem? (_:H) i) q2) Qe))
 obtain⟨h',e,E⟩:=H _ _ rfl rfl
 have hl:h'[(h++[AO.ins 0 [(0,.loc (h.length+1)),(1,.int 0)]]++[AO.dct []]).length]?=some (.lst []):=E.get (Qf Qe)
 refine⟨h',?_,Ext.trans (.snoc (.snoc (.snoc (.snoc .refl)))) E⟩
 cases r:leW ws vs with
 |false=>
  rw[r]at e
  simp only[cond_false,cond_true]at e ⊢
  apply Qd L9
  ·walk_at "body"
  ·exact rfl
 |true=>
  rw[r]at e
  simp only[cond_false,cond_true]at e ⊢
  apply Qd L9
  ·walk_at "body"
  ·exact rfl
theorem Sq (hn:9≤n)(K:KI h)(hw:L12 ws)(hv:L12 vs)(dw:Wds ws)(dv:Wds vs)(r:leW ws vs=true):Qb ns n 21 [.loc 1,Ql m ws,Ql m vs] h=some (.loc h.length,h++[.dct []]):=by
 obtain⟨h',e,E⟩:=DY (ns:=ns) (m:=m) hn K hw hv dw dv
 rw[r]at e
 exact L_n (by omega) rfl e E.snoc E.le Qe rfl
theorem Sf (hn:9≤n)(K:KI h)(hw:L12 ws)(hv:L12 vs)(dw:Wds ws)(dv:Wds vs)(r:leW ws vs=false):Qb ns n 21 [.loc 1,Ql m ws,Ql m vs] h=some (.none,h):=by
 obtain⟨h',e,E⟩:=DY (ns:=ns) (m:=m) hn K hw hv dw dv
 rw[r]at e
 exact L_v (by omega) rfl e E rfl
end
end
section
def mtW:List Nat→List Nat→Bool
 |[],vs=>vs.isEmpty
 |w::ws,vs=>match vs with
  |[]=>false
  |v::vs=>(Yb w v||Yb v w)&&mtW ws vs
def gW (w v:Nat):Nat:=if Yb w v then w else v
def mK (w v:Nat):PV:=if Yb w v||Yb v w then kOf (gW w v)else QS
def mT (m:Nat)(ws vs:List Nat):PV:=if mtW ws vs then Ql m (ws.zipWith gW vs)else QS
section
variable {ns:List Int} {n f:Nat} {h h' h0:H} {one other:PV} {m t mt a b:Nat} {ws vs:List Nat} {w v:Nat}
theorem GI (hn:2≤n){p:PV}(k:J4 p=true)(e:Qb ns (n - 1) 3 [p] h=some (.loc h.length,h++[.lst []])):Qb ns n 24 [.loc mt,p] h=some (.bool false,h):=by
 have he:eqV (h++[AO.lst []]++[AO.lst []]) EQ (.loc h.length) (.loc (h++[AO.lst []]).length)=some true:=YU (Qf Qe) Qe rfl
 apply L_v
 ·omega
 ·rfl
 ·apply Qd QbH
  ·walk_at "body"
  ·exact rfl
 ·walk_at "ext"
 ·exact rfl
theorem Ki (hn:2≤n)(w:Nat):Qb ns n 24 [.loc mt,kOf w] h=some (.bool false,h):=GI hn rfl (A0 (by omega) w)
theorem Vb (hn:2≤n)(m w:Nat):Qb ns n 24 [.loc mt,Ql m [w]] h=some (.bool false,h):=GI hn rfl (Qab (by omega) m w)
theorem XO (hn:2≤n)(m w v:Nat):Qb ns n 24 [.loc mt,Ql m [w,v]] h=some (.bool false,h):=GI hn rfl (CY (by omega) m w v)
theorem Wp {N t:Nat}{p:PV}(k:Yp N p=true)(kt:t<N):Yp N (.tup [p,.loc t])=true:=by
 show Yc N [p,.loc t]=true
 show(Yp N p&&(Yp N (.loc t)&&true))=true
 rw[k,Ui kt]
 rfl
theorem LP (hn:2≤n)(K:KI h)(hm:h[mt]?=some (.ins 2 [(4,.loc 1),(14,.loc a),(15,.loc b)]))(ht:t<h.length)(hw:Wd w)(hv:Wd v)(q:(Yb w v||Yb v w)=false):Qb ns n 29 [.loc mt,kOf w,kOf v,.loc t] h=some (.tup [QS,.loc t],h):=by
 refine q2 w v ?_;intro Q;have k1:=K.k1
 have ne:(w=10∧v=11)∨(w=11∧v=10):=by
  rcases hw with rfl|rfl|rfl|rfl<;>rcases hv with rfl|rfl|rfl|rfl<;>first|exact Or.inl ⟨rfl,rfl⟩|exact Or.inr ⟨rfl,rfl⟩|exact absurd q (by decide)
 clear q hw hv;rcases ne with ⟨rfl,rfl⟩|⟨rfl,rfl⟩
 ·apply L_v
  ·omega
  ·rfl
  ·apply Qd Qah
   ·walk_at "body"
   ·exact rfl
  ·walk_at "ext"
  ·exact Wp rfl ht
 ·apply L_v
  ·omega
  ·rfl
  ·apply Qd Qah
   ·walk_at "body"
   ·exact rfl
  ·walk_at "ext"
  ·exact Wp rfl ht
theorem Tz (hn:3≤n)(K:KI h)(hm:h[mt]?=some (.ins 2 [(4,.loc 1),(14,.loc a),(15,.loc b)]))(ht:t<h.length)(hw:Wd w)(hv:Wd v)(q:(Yb w v||Yb v w)=false):Qb ns n 27 [.loc mt,kOf w,kOf v,.loc t] h=some (.tup [QS,.loc t],h):=by
 have e:=LP (ns:=ns) (n:=n - 1) (by omega) K hm ht hw hv q
 refine L_v (by omega) rfl ?_ .refl (Wp rfl ht)
 apply Qd AP
 ·walk_at "body"
 ·exact rfl
theorem AR (hw:Wd w)(q:Nat.beq w v=true):mK w v=kOf w:=by
 have:=Nat.eq_of_beq_eq_true q
 clear q;subst this
 rcases hw with rfl|rfl|rfl|rfl<;>rfl
theorem V5 (hw:Wd w)(q:Nat.beq v 9=true):mK w v=kOf w:=by
 have:=Nat.eq_of_beq_eq_true q
 clear q;subst this
 rcases hw with rfl|rfl|rfl|rfl<;>rfl
theorem SF (hv:Wd v)(q2:Nat.beq v 9=false)(q:Nat.beq w 9=true):mK w v=kOf v:=by
 clear q2;have:=Nat.eq_of_beq_eq_true q
 clear q;subst this
 rcases hv with rfl|rfl|rfl|rfl<;>first|rfl|exact absurd q2 Bool.true_ne_false
theorem KY (hn:9≤n)(K:KI h)(hm:h[mt]?=some (.ins 2 [(4,.loc 1),(14,.loc a),(15,.loc b)]))(ht:t<h.length)(hw:Wd w)(hv:Wd v):Qb ns n 26 [.loc mt,kOf w,kOf v,.loc t] h=some (.tup [mK w v,.loc t],h):=by
 have o1:=Ki (ns:=ns) (n:=n - 1) (h:=h) (mt:=mt) (by omega) w
 have o2:=Ki (ns:=ns) (n:=n - 1) (h:=h) (mt:=mt) (by omega) v
 have s1:=Xh (ns:=ns) (n:=n - 1) (h:=h) (by omega) K hw hv
 have s2:=Xh (ns:=ns) (n:=n - 1) (h:=h) (by omega) K hv hw
 have pl:=Tz (ns:=ns) (n:=n - 1) (by omega) K hm ht hw hv
 have e1:eqV h EQ (kOf w) (kOf v)=some (Nat.beq w v):=eqk 3
 have e2:eqV h EQ (kOf v) Zb=some (Nat.beq v 9):=eqk 3
 have e3:eqV h EQ (kOf w) Zb=some (Nat.beq w 9):=eqk 3
 have lk:Yp h.length (mK w v)=true:=by unfold mK;split<;>rfl
 refine L_v (by omega) rfl ?_ .refl (Wp lk ht)
 clear lk K
 cases q1:Nat.beq w v with
 |true=>
  rw[q1]at e1
  rw[AR hw q1]
  clear pl s1 s2 o1 o2 e2 e3
  apply Qd Uz
  ·walk_at "body"
  ·exact rfl
 |false=>
  rw[q1]at e1
  cases q2:Nat.beq v 9 with
  |true=>
   rw[q2]at e2
   rw[V5 hw q2]
   clear pl s1 s2 o1 o2 e3
   apply Qd Uz
   ·walk_at "body"
   ·exact rfl
  |false=>
   rw[q2]at e2
   cases q3:Nat.beq w 9 with
   |true=>
    rw[q3]at e3
    rw[SF hv q2 q3]
    clear pl s1 s2 o1 o2
    apply Qd Uz
    ·walk_at "body"
    ·exact rfl
   |false=>
    rw[q3]at e3
    delta mK gW
    cases q4:Yb w v with
    |true=>
     rw[q4]at s1
     clear pl s2
     apply Qd Uz
     ·walk_at "body"
     ·exact rfl
    |false=>
     rw[q4]at s1
     cases q5:Yb v w with
     |true=>
      refine q0 ?_;intro Q;rw[q5]at s2
      clear pl
      apply Qd Uz
      ·walk_at "body"
      ·exact rfl
     |false=>
      rw[q5]at s2
      have pl:=pl (by rw[q4,q5];rfl)
      apply Qd Uz
      ·walk_at "body"
      ·exact rfl
end
end
section
section
variable {h:H} {t:Nat} {X:H}
theorem VC (k:t<h.length):t<(h++X).length:=by rw[List.length_append];exact o185 k
end
section
variable {ns:List Int} {n f:Nat} {h h' h0:H} {one other:PV} {m t mt a b l:Nat} {ws vs:List Nat} {w v w' v':Nat} {ps:List PV}
theorem HY {N:Nat}:∀us:List Nat,Yc N (us.map kOf)=true
 |[]=>rfl
 |u::us=>by
  show(Yp N (kOf u)&&Yc N (us.map kOf))=true
  rw[HY us]
  rfl
theorem Y4 {N m:Nat}{us:List Nat}:Yp N (Ql m us)=true:=by
 show(Yp N (.sym 1)&&(((Yp N (fOf m)&&Yc N (us.map kOf)))&&true))=true
 rw[HY us]
 rfl
theorem FI {N:Nat}:Yp N (mT m ws vs)=true:=by
 unfold mT
 split
 ·exact Y4
 ·rfl
theorem FW {ws vs:List Nat}(a:leW ws vs=true):mtW ws vs=true∧ws.zipWith gW vs=ws:=by
 induction ws generalizing vs with
 |nil=>cases vs with
  |nil=>exact⟨rfl,rfl⟩
  |cons _ _=>exact ff a
 |cons w ws ih=>cases vs with
  |nil=>exact ff a
  |cons v vs=>
   have a:=Bool.and_eq_true_iff.mp a
   obtain⟨i,j⟩:=ih a.2
   refine⟨Bool.and_eq_true_iff.mpr ⟨Bool.or_eq_true_iff.mpr (.inl a.1),i⟩,?_⟩
   rw[List.zipWith_cons_cons,j]
   unfold gW
   rw[if_pos a.1]
theorem TH {ws vs:List Nat}(dw:Wds ws)(dv:Wds vs)(a:leW vs ws=true):mtW ws vs=true∧ws.zipWith gW vs=vs:=by
 induction ws generalizing vs with
 |nil=>cases vs with
  |nil=>exact⟨rfl,rfl⟩
  |cons _ _=>exact ff a
 |cons w ws ih=>cases vs with
  |nil=>exact ff a
  |cons v vs=>
   have a:=Bool.and_eq_true_iff.mp a
   obtain⟨i,j⟩:=ih (fun x hx=>dw x (.tail _ hx)) (fun x hx=>dv x (.tail _ hx)) a.2
   refine⟨Bool.and_eq_true_iff.mpr ⟨Bool.or_eq_true_iff.mpr (.inr a.1),i⟩,?_⟩
   rw[List.zipWith_cons_cons,j]
   unfold gW
   by_cases q:Yb w v=true
   ·rw[if_pos q,OG (dw w (.head _)) (dv v (.head _)) q a.1]
   ·rw[if_neg q]
theorem EJ (hn:1≤n)(hl:h[l]?=some (.lst ps))(sh:QG ps=true)(lo:Yc h.length ps=true):Qb ns n 0 [.loc l] h=some (AY ps,h):=by
 apply L_v
 ·omega
 ·rfl
 ·apply Qd AW
  ·walk_at "body"
  ·exact rfl
 ·walk_at "ext"
 ·show(Yp h.length (.sym 1)&&((Yc h.length ps)&&true))=true
  rw[lo]
  rfl
theorem Ce (hn:9≤n)(K:KI h)(hm:h[mt]?=some (.ins 2 [(4,.loc 1),(14,.loc a),(15,.loc b)]))(ht:t<h.length)(hw:Wd w)(hv:Wd v)(q:(Yb w v||Yb v w)=true):Qb ns n 26 [.loc mt,kOf w,kOf v,.loc t] h=some (.tup [kOf (gW w v),.loc t],h):=by
 have:=KY (ns:=ns) hn K hm ht hw hv
 unfold mK at this
 rw[q]at this
 exact this
theorem V1 (hn:9≤n)(K:KI h)(hm:h[mt]?=some (.ins 2 [(4,.loc 1),(14,.loc a),(15,.loc b)]))(ht:t<h.length)(hw:Wd w)(hv:Wd v)(q:(Yb w v||Yb v w)=false):Qb ns n 26 [.loc mt,kOf w,kOf v,.loc t] h=some (.tup [QS,.loc t],h):=by
 have:=KY (ns:=ns) hn K hm ht hw hv
 unfold mK at this
 rw[q]at this
 exact this
theorem EW (hn:1≤n)(ht:t<h.length):Qb ns n 26 [.loc mt,fOf m,fOf m,.loc t] h=some (.tup [fOf m,.loc t],h):=by
 have e:eqV h EQ (fOf m) (fOf m)=some true:=by rw[show EQ=4+2 from rfl,eqf,Nat.beq_refl]
 apply L_v
 ·omega
 ·rfl
 ·apply Qd Uz
  ·walk_at "body"
  ·exact rfl
 ·walk_at "ext"
 ·exact Wp rfl ht
end
section
variable {ns:List Int} {n f:Nat} {h h' h0:H} {one other:PV} {m t mt a b l:Nat} {ws vs:List Nat} {w v w' v':Nat} {ps:List PV}
theorem TF (hn:10≤n)(K:KI h)(hm:h[mt]?=some (.ins 2 [(4,.loc 1),(14,.loc a),(15,.loc b)]))(ht:t<h.length)(hw:Wd w)(hv:Wd v):Qb ns n 28 [.loc mt,Ql m [w],Ql m [v],.loc t] h=some (.tup [mT m [w] [v],.loc t],h):=by
 refine q0 ?_;intro Q;cases q:(Yb w v||Yb v w)with
 |true=>
  dsimp only[Q];rw[show mT m [w] [v]=Ql m [gW w v] by simp[mT,mtW,q]]
  apply L_v
  ·omega
  ·rfl
  ·apply Qd GO
   ·walk_at "body"
   ·exact rfl
  ·walk_at "ext"
  ·exact Wp rfl ht
 |false=>
  dsimp only[Q];rw[show mT m [w] [v]=QS by simp only[mT,mtW,q,Bool.false_and];rfl]
  apply L_v
  ·omega
  ·rfl
  ·apply Qd GO
   ·walk_at "body"
   ·exact rfl
  ·walk_at "ext"
  ·exact Wp rfl ht
end
end
section
section
variable {ns:List Int} {n f:Nat} {h h' h0:H} {one other:PV} {m t mt a b l:Nat} {ws vs:List Nat} {w v w' v':Nat} {ps:List PV}
theorem Ty (hn:10≤n)(K:KI h)(hm:h[mt]?=some (.ins 2 [(4,.loc 1),(14,.loc a),(15,.loc b)]))(ht:t<h.length)(hw:Wd w)(hv:Wd v)(hw':Wd w')(hv':Wd v'):Qb ns n 28 [.loc mt,Ql m [w,w'],Ql m [v,v'],.loc t] h=some (.tup [mT m [w,w'] [v,v'],.loc t],h):=by
 cases q:(Yb w v||Yb v w)with
 |true=>
  cases q':(Yb w' v'||Yb v' w')with
  |true=>
   rw[show mT m [w,w'] [v,v']=Ql m [gW w v,gW w' v'] by simp[mT,mtW,q,q']]
   apply L_v
   ·omega
   ·rfl
   ·apply Qd GO
    ·walk_at "body"
    ·exact rfl
   ·walk_at "ext"
   ·exact Wp rfl ht
  |false=>
   rw[show mT m [w,w'] [v,v']=QS by simp only[mT,mtW,q',Bool.false_and,Bool.and_false];rfl]
   apply L_v
   ·omega
   ·rfl
   ·apply Qd GO
    ·walk_at "body"
    ·exact rfl
   ·walk_at "ext"
   ·exact Wp rfl ht
 |false=>
  rw[show mT m [w,w'] [v,v']=QS by simp only[mT,mtW,q,Bool.false_and];rfl]
  apply L_v
  ·omega
  ·rfl
  ·apply Qd GO
   ·walk_at "body"
   ·exact rfl
  ·walk_at "ext"
  ·exact Wp rfl ht
theorem SO (hn:10≤n)(ht:t<h.length):Qb ns n 28 [.loc mt,Ql m [w],Ql m [v,v'],.loc t] h=some (.tup [mT m [w] [v,v'],.loc t],h):=by
 rw[show mT m [w] [v,v']=QS by simp only[mT,mtW,List.isEmpty_cons,Bool.and_false];rfl]
 apply L_v
 ·omega
 ·rfl
 ·apply Qd GO
  ·walk_at "body"
  ·exact rfl
 ·walk_at "ext"
 ·exact Wp rfl ht
theorem RV (hn:10≤n)(ht:t<h.length):Qb ns n 28 [.loc mt,Ql m [w,w'],Ql m [v],.loc t] h=some (.tup [mT m [w,w'] [v],.loc t],h):=by
 rw[show mT m [w,w'] [v]=QS by simp only[mT,mtW,Bool.and_false];rfl]
 apply L_v
 ·omega
 ·rfl
 ·apply Qd GO
  ·walk_at "body"
  ·exact rfl
 ·walk_at "ext"
 ·exact Wp rfl ht
theorem EB (hn:10≤n)(K:KI h)(hm:h[mt]?=some (.ins 2 [(4,.loc 1),(14,.loc a),(15,.loc b)]))(ht:t<h.length)(hw:L12 ws)(hv:L12 vs)(dw:Wds ws)(dv:Wds vs):Qb ns n 28 [.loc mt,Ql m ws,Ql m vs,.loc t] h=some (.tup [mT m ws vs,.loc t],h):=by
 refine q2 ws vs ?_;intro Q;rcases hw with ⟨w,rfl⟩|⟨w,w',rfl⟩<;>rcases hv with ⟨v,rfl⟩|⟨v,v',rfl⟩
 ·exact TF hn K hm ht (dw _ (by simp)) (dv _ (by simp))
 ·exact SO hn ht
 ·exact RV hn ht
 ·exact Ty hn K hm ht (dw _ (by simp)) (dv _ (by simp)) (dw _ (by simp)) (dv _ (by simp))
theorem Rn (hn:11≤n)(K:KI h)(hm:h[mt]?=some (.ins 2 [(4,.loc 1),(14,.loc a),(15,.loc b)]))(ht:t<h.length)(hw:L12 ws)(hv:L12 vs)(dw:Wds ws)(dv:Wds vs):Qb ns n 27 [.loc mt,Ql m ws,Ql m vs,.loc t] h=some (.tup [mT m ws vs,.loc t],h):=by
 have e:=EB (ns:=ns) (n:=n - 1) (m:=m) (by omega) K hm ht hw hv dw dv
 apply L_v
 ·omega
 ·rfl
 ·apply Qd AP
  ·walk_at "body"
  ·exact rfl
 ·walk_at "ext"
 ·exact Wp FI ht
theorem Tn (hn:2≤n)(m:Nat)(hw:L12 ws):Qb ns n 24 [.loc mt,Ql m ws] h=some (.bool false,h):=by
 refine q1 ws ?_;intro Q;rcases hw with ⟨w,rfl⟩|⟨w,w',rfl⟩
 ·exact Vb hn m w
 ·exact XO hn m w w'
theorem Xi (q:leW ws vs=true):mT m ws vs=Ql m ws:=by
 obtain⟨i,j⟩:=FW q
 unfold mT
 rw[i,j]
 rfl
theorem CR (dw:Wds ws)(dv:Wds vs)(q:leW vs ws=true):mT m ws vs=Ql m vs:=by
 obtain⟨i,j⟩:=TH dw dv q
 unfold mT
 rw[i,j]
 rfl
theorem Xy:eqV h EQ (Ql m ws) Zb=some false:=by
 show(match eqV h 5 (.sym 1) (.sym 0)with|some a=>(match (match eqV h 5 (.tup (fOf m::ws.map kOf)) (.sym 9)with|some a=>(match Yq (eqV h 5) [.none] [.tup []]with|some b=>some (a&&b)|none=>none)|none=>none)with|some b=>some (a&&b)|none=>none)|none=>none)=_
 rfl
theorem VW (hn:12≤n)(K:KI h)(hm:h[mt]?=some (.ins 2 [(4,.loc 1),(14,.loc a),(15,.loc b)]))(ht:t<h.length)(hw:L12 ws)(hv:L12 vs)(dw:Wds ws)(dv:Wds vs):Qb ns n 26 [.loc mt,Ql m ws,Ql m vs,.loc t] h=some (.tup [mT m ws vs,.loc t],h):=by
 by_cases ne:ws=vs
 ·subst ne
  have e:eqV h EQ (Ql m ws) (Ql m ws)=some true:=BI
  rw[Xi (Bw dw)]
  apply L_v
  ·omega
  ·rfl
  ·apply Qd Uz
   ·walk_at "body"
   ·exact rfl
  ·walk_at "ext"
  ·exact Wp Y4 ht
 ·have e:eqV h EQ (Ql m ws) (Ql m vs)=some false:=BP ne
  have e1:eqV h EQ (Ql m ws) Zb=some false:=Xy
  have e2:eqV h EQ (Ql m vs) Zb=some false:=Xy
  have o1:=Tn (ns:=ns) (n:=n - 1) (h:=h) (mt:=mt) (by omega) m hw
  have o2:=Tn (ns:=ns) (n:=n - 1) (h:=h) (mt:=mt) (by omega) m hv
  have s1:=UH (ns:=ns) (n:=n - 1) (m:=m) (by omega) K hw hv dw dv
  have s2:=UH (ns:=ns) (n:=n - 1) (m:=m) (by omega) K hv hw dv dw
  have pl:=Rn (ns:=ns) (n:=n - 1) (m:=m) (by omega) K hm ht hw hv dw dv
  cases q1:leW ws vs with
  |true=>
   rw[Xi q1]
   rw[q1]at s1
   apply L_v
   ·omega
   ·rfl
   ·apply Qd Uz
    ·walk_at "body"
    ·exact rfl
   ·walk_at "ext"
   ·exact Wp Y4 ht
  |false=>
   rw[q1]at s1
   cases q2:leW vs ws with
   |true=>
    rw[CR dw dv q2]
    rw[q2]at s2
    apply L_v
    ·omega
    ·rfl
    ·apply Qd Uz
     ·walk_at "body"
     ·exact rfl
    ·walk_at "ext"
    ·exact Wp Y4 ht
   |false=>
    rw[q2]at s2
    apply L_v
    ·omega
    ·rfl
    ·apply Qd Uz
     ·walk_at "body"
     ·exact rfl
    ·walk_at "ext"
    ·exact Wp FI ht
end
end
section
section
variable {h:H} {l:Nat} {ds:List (PV×PV)}
theorem X0 {o:AO}:h.length<(h++[o]).length:=by rw[List.length_append];exact Nat.lt_succ_self _
theorem RG {ns:List Int}(e:h[l]?=some (.dct ds))(k:QG ds=true):PX ns (.loc l) h=some (.int ds.length,h):=congrArg (Option.map _) (WV rfl (WV (N4 e) (OR ((Jj e).trans (gdT k rfl)))))
end
section
variable {ns:List Int} {n f:Nat} {h h' h0:H} {one other:PV} {m t mt a b l:Nat} {ws vs:List Nat} {w v w' v':Nat} {ps:List PV} {p:PV}
theorem Qav (hn:1≤n):Qb ns n 3 [QS] h=some (.loc h.length,h++[.lst []]):=t0n hn rfl (by kernel_rfl) rfl rfl
theorem Om (hn:2≤n)(ht:h[t]?=some (.dct []))(k:J4 p=true)(lp:Yp h.length p=true)(e:Qb ns (n - 1) 3 [p] h=some (.loc h.length,h++[.lst []])):Qb ns n 25 [.loc mt,p,.loc t] h=some (p,h):=by
 have he:eqV (h++[AO.lst []]++[AO.lst []]++[AO.lst []]) EQ (.loc (h++[AO.lst []]).length) (.loc (h++[AO.lst []]++[AO.lst []]).length)=some true:=YU (Qf Qe) Qe rfl
 apply L_v
 ·omega
 ·rfl
 ·apply Qd Qbk
  ·walk_at "body"
  ·exact rfl
 ·walk_at "ext"
 ·exact lp
theorem Ta (hn:1≤n):Qb ns n 23 [.loc h.length,.loc 1,.loc l] (h++[.ins 2 []])=some (.none,h++[.ins 2 [(4,.loc 1),(14,.loc l),(15,.loc (h++[AO.ins 2 [(4,.loc 1),(14,.loc l)]]).length)]]++[.dct []]):=by
 refine Zt hn rfl ?_ Qe (Qf Qe) (by intro q;cases q)
 apply Qd QbQ
 ·walk_at "body"
 ·exact rfl
theorem Qbr (hn:1≤n)(m:Nat)(hw:L12 ws):Qb ns n 22 [Ql m ws] h=some (.loc h.length,h++[.lst []]):=by
 refine q1 ws ?_;intro Q;rcases hw with ⟨w,rfl⟩|⟨w,w',rfl⟩
 ·exact QaK hn m w
 ·exact QaC hn m w w'
theorem QaU (hn:1≤n)(m:Nat)(hw:L12 ws):Qb ns n 3 [Ql m ws] h=some (.loc h.length,h++[.lst []]):=by
 refine q1 ws ?_;intro Q;rcases hw with ⟨w,rfl⟩|⟨w,w',rfl⟩
 ·exact Qab hn m w
 ·exact CY hn m w w'
theorem SP {ws vs:List Nat}(a:mtW ws vs=true):ws.length=vs.length:=by
 induction ws generalizing vs with
 |nil=>cases vs with
  |nil=>rfl
  |cons _ _=>exact ff a
 |cons w ws ih=>cases vs with
  |nil=>exact ff a
  |cons v vs=>exact congrArg (·+1) (ih (Bool.and_eq_true_iff.mp a).2)
theorem Tv (hw:L12 ws)(hv:L12 vs)(q:ws.length=vs.length):L12 (ws.zipWith gW vs):=by
 rcases hw with ⟨w,rfl⟩|⟨w,w',rfl⟩<;>rcases hv with ⟨v,rfl⟩|⟨v,v',rfl⟩
 ·exact Or.inl ⟨_,rfl⟩
 ·cases q
 ·cases q
 ·exact Or.inr ⟨_,_,rfl⟩
theorem HD (m:Nat)(hw:L12 ws)(hv:L12 vs):(mtW ws vs=true∧∃us,L12 us∧mT m ws vs=Ql m us)∨(mtW ws vs=false∧mT m ws vs=QS):=by
 cases q:mtW ws vs with
 |true=>exact Or.inl ⟨rfl,_,Tv hw hv (SP q),by unfold mT;rw[q];rfl⟩
 |false=>exact Or.inr ⟨rfl,by unfold mT;rw[q];rfl⟩
theorem SY (e:mT m ws vs=p)(hn:12≤n)(K:KI h)(hm:h[mt]?=some (.ins 2 [(4,.loc 1),(14,.loc a),(15,.loc b)]))(ht:t<h.length)(hw:L12 ws)(hv:L12 vs)(dw:Wds ws)(dv:Wds vs):Qb ns n 26 [.loc mt,Ql m ws,Ql m vs,.loc t] h=some (.tup [p,.loc t],h):=e▸VW hn K hm ht hw hv dw dv
theorem PQ (hn:2≤n)(ht:h[t]?=some (.dct []))(hw:L12 ws):Qb ns n 25 [.loc mt,Ql m ws,.loc t] h=some (Ql m ws,h):=Om hn ht rfl Y4 (QaU (by omega) m hw)
theorem PE (hn:2≤n)(ht:h[t]?=some (.dct [])):Qb ns n 25 [.loc mt,QS,.loc t] h=some (QS,h):=Om hn ht rfl rfl (Qav (by omega))
end
section
variable {ns:List Int} {n f:Nat} {h h' h0:H} {one other:PV} {m t mt a b l:Nat} {ws vs:List Nat} {w v w' v':Nat} {ps:List PV} {p:PV}
theorem Pi (hn:13≤n)(K:KI h)(hw:L12 ws)(hv:L12 vs)(dw:Wds ws)(dv:Wds vs):Qb ns n 30 [.loc 1,Ql m ws,Ql m vs] h=some (mT m ws vs,h):=by
 rcases HD m hw hv with ⟨q,us,l,e⟩|⟨q,e⟩
 ·rw[e]
  apply L_v
  ·omega
  ·rfl
  ·apply Qd Ax
   ·walk_at "body"
   ·exact rfl
  ·walk_at "ext"
  ·exact Y4
 ·rw[e]
  apply L_v
  ·omega
  ·rfl
  ·apply Qd Ax
   ·walk_at "body"
   ·exact rfl
  ·walk_at "ext"
  ·exact rfl
theorem Cq:eqV h EQ (Ql m ws) QS=some false:=rfl
theorem Dv (hw:L12 ws)(hv:L12 vs):eqV h EQ (mT m ws vs) QS=some (!mtW ws vs):=by
 rcases HD m hw hv with ⟨q,us,l,e⟩|⟨q,e⟩
 ·simp only[e,q,Cq];rfl
 ·rw[e,q];rfl
end
end
section
theorem B7 {α:Type}{t:Tg}{ifl:List TX}{e:EX}{src:Src}{C:CT}{ns:List Int}{ρ:Lc}{h1:H}{ps:List α}{pv:α→PV}{b:α→Bool}{f:α→PV}
  (sh:ps.length≤60)
  (hs:∀i h,Ext h1 h→YQ h i src=some (ps[i]?.map pv))
  (hb:∀p∈ps,∃ρ₁,ZY t (pv p) ρ=some ρ₁∧(∀h,Ext h1 h→∃h',Yk ifl C ns ρ₁ h=some (b p,h')∧Ext h h')∧(b p=true→∀h,Ext h1 h→∃h',e C ns ρ₁ h=some (f p,h')∧Ext h h')):
  ∀(qs rs:List α) (n i:Nat) (acc:List PV) (X:H),ps=rs++qs→i=rs.length→acc.length≤i→qs.length<n→
   ∃Y,QZ t (Yk ifl) (MA h1.length e) n src i C ns ρ (h1++([.lst acc]++X))=some ((),h1++([.lst (acc++(qs.filter b).map f)]++Y))
 |[],rs,n,i,acc,X,e1,e2,ea,hn=>by
  obtain⟨n,rfl⟩:∃m,n=m+1:=⟨n - 1,by simp at hn;omega⟩
  refine⟨X,?_⟩
  rewrite [JS,hs i _ (Ext.app .refl),e1,e2]
  simp
 |q::qs,rs,n,i,acc,X,e1,e2,ea,hn=>by
  obtain⟨n,rfl⟩:∃m,n=m+1:=⟨n - 1,by simp at hn;omega⟩
  obtain⟨ρ₁,p,c,em⟩:=hb q (by rw[e1];simp)
  obtain⟨h',c,X',rfl⟩:=c (h1++([.lst acc]++X)) (Ext.app .refl)
  have s:YQ (h1++([.lst acc]++X)) i src=some (some (pv q)):=by
   rewrite [hs i _ (Ext.app .refl),e1,e2]
   simp
  have al:acc.length≤60:=by
   have:=congrArg List.length e1
   simp at this
   exact o186 e2 this sh ea
  rw[JS,s]
  dsimp only
  rw[p]
  dsimp only
  rw[c]
  cases hbq:b q with
  |false=>
   obtain⟨Y,ih⟩:=B7 sh hs hb qs (rs++[q]) n (i+1) acc (X++X') (by simp[e1]) (by simp[e2]) (by exact o187 e2 ea) (by simp at hn;omega)
   refine⟨Y,?_⟩
   rw[List.filter_cons_of_neg (by rw[hbq];exact Bool.false_ne_true),←ih]
   show QZ _ _ _ _ _ _ _ _ _ _=_
   simp only[List.append_assoc,List.append_assoc]
  |true=>
   obtain⟨h'',em,X'',rfl⟩:=em hbq (h1++([.lst acc]++X)++X') (Ext.trans (Ext.app .refl) (Ext.app .refl))
   have er:MA h1.length e C ns ρ₁ (h1++([.lst acc]++X)++X')=some ((),h1++([.lst (acc++[f q])]++(X++X'++X''))):=by
    refine Qv em ?_
    have:J8 (.loc h1.length) (f q) (h1++([.lst acc]++X)++X'++X'')=some (.none,h1++([.lst (acc++[f q])]++(X++X'++X''))):=by
     have g:(h1++([AO.lst acc]++X)++X'++X'')[h1.length]?=some (.lst acc):=by
      rw[show h1++([AO.lst acc]++X)++X'++X''=(h1++[AO.lst acc])++(X++X'++X'') by simp]
      exact Qf Qe
     refine(Yj g).trans (gdT (Yu (show acc.length≤5000 by omega)) ?_)
     unfold Gg
     rw[show h1++([AO.lst acc]++X)++X'++X''=h1++([AO.lst acc]++(X++X'++X'')) by simp,List.set_append_right _ _ (Nat.le_refl _),Nat.sub_self]
     rfl
    rw[this]
    rfl
   obtain⟨Y,ih⟩:=B7 sh hs hb qs (rs++[q]) n (i+1) (acc++[f q]) (X++X'++X'') (by simp[e1]) (by simp[e2]) (by simp;omega) (by simp at hn;omega)
   refine⟨Y,?_⟩
   rewrite [List.filter_cons_of_pos hbq]
   refine Qv rfl (Qv er ?_)
   rw[ih,List.append_assoc]
   rfl
theorem YO {α:Type}{t:Tg}{it:IX}{ifl:List TX}{e:EX}{src:Src}{C:CT}{ns:List Int}{ρ ρ₁:Lc}{h h1:H}{ps:List α}(pv:α→PV)(b:α→Bool)(f:α→PV)
  (ei:it C ns ρ h=some (src,h1)) (er:YN (QX t) ρ=ρ₁) (sh:ps.length≤60)
  (hs:∀i h,Ext h1 h→YQ h i src=some (ps[i]?.map pv))
  (hb:∀p∈ps,∃ρ₂,ZY t (pv p) ρ₁=some ρ₂∧(∀h,Ext h1 h→∃h',Yk ifl C ns ρ₂ h=some (b p,h')∧Ext h h')∧(b p=true→∀h,Ext h1 h→∃h',e C ns ρ₂ h=some (f p,h')∧Ext h h')):
  ∃h',QJ it t ifl e C ns ρ h=some (.loc h1.length,h')∧Ext (h1++[.lst ((ps.filter b).map f)]) h':=by
 obtain⟨Y,q⟩:=B7 sh hs hb ps [] 64 0 [] [] rfl rfl (Nat.le_refl _) (by exact o56 sh)
 refine⟨_,BK ei er q,Y,?_⟩
 exact(List.append_assoc _ _ _).symm
end
section
section
variable {ns:List Int} {n:Nat} {h:H} {m l:Nat} {ws vs:List Nat} {wss:List (List Nat)}
theorem G3 (hn:9≤n)(K:KI h)(hw:L12 ws)(hv:L12 vs)(dw:Wds ws)(dv:Wds vs)(ne:ws≠vs):Qb ns n 52 [.loc 1,Ql m ws,Ql m vs] h=some (.bool (leW ws vs),h):=by
 have s1:=UH (ns:=ns) (n:=n - 1) (m:=m) (by omega) K hw hv dw dv
 have s2:=UH (ns:=ns) (n:=n - 1) (m:=m) (by omega) K hv hw dv dw
 cases q1:leW ws vs with
 |false=>
  rw[q1]at s1
  apply L_v
  ·omega
  ·rfl
  ·apply Qd CX
   ·walk_at "body"
   ·exact rfl
  ·walk_at "ext"
  ·exact rfl
 |true=>
  have q2:leW vs ws=false:=by
   cases q:leW vs ws with
   |true=>exact absurd (Ws dw dv q1 q) ne
   |false=>rfl
  rewrite [q1]at s1
  rw[q2]at s2
  apply L_v
  ·omega
  ·rfl
  ·apply Qd CX
   ·walk_at "body"
   ·exact rfl
  ·walk_at "ext"
  ·exact rfl
def OkW (wss:List (List Nat)):Prop:=wss.length≤50∧wss.Nodup∧∀ws∈wss,L12 ws∧Wds ws
theorem JK {j:Nat}(hj:j≤1000):Yt (j:Int)=true:=by
 unfold Yt
 simp
 exact o188 hj
theorem YI {ps:List PV}{j:Nat}{v:PV}(hj:j≤1000)(e:ps[j]?=some v):Yw ps (j:Int)=some v:=by
 unfold Yw
 rewrite [JK hj,if_pos rfl,if_pos (by exact o189 hj),Int.toNat_natCast]
 exact e
theorem J7 {k:Nat}(hk:k≤1000):ZH 0 (k:Int) h=some (.rng 0 k,h):=by
 unfold ZH
 rw[JK hk,show Yt 0=true from rfl]
 simp
theorem K0 {j k:Nat}(hj:j≤1000)(hk:k≤1000):ZH (j:Int) (k:Int) h=some (.rng j (k - j),h):=by
 unfold ZH
 simp only[JK hk,JK hj]
 simp
theorem Je {i k:Nat}:YQ h i (.rng 0 k)=some (if i<k then some (.int (i:Int))else none):=by
 simp only[Hu,Int.zero_add]
theorem Ni {i j:Nat}:eqV h EQ (.int (i:Int)) (.int (j:Int))=some (Nat.beq i j):=by
 show some ((i:Int)==(j:Int))=_
 congr 1
 cases q:Nat.beq i j with
 |true=>simp[Nat.eq_of_beq_eq_true q]
 |false=>
  have:i≠j:=fun e=>by rw[e,Nat.beq_refl]at q;cases q
  simp;exact o57 this
def sgs (m:Nat)(wss:List (List Nat)):List PV:=wss.map (Ql m)
def ahd (wss:List (List Nat))(i:Nat):Prop:=∀j wi wj,j≠i→wss[i]?=some wi→wss[j]?=some wj→leW wi wj=true
def Ph:List SX:=[(sIf (Yk [(tE (eNe (Qa 3) (Qa 2))),(ZO (tE (Qn 52 [(Qa 0),(Qi (Qa 1) (Qa 2)),(Qi (Qa 1) (Qa 3))])))]) [(QA (YH false))] [])]
theorem SN (hn:10≤n)(K:KI h)(O:OkW wss)(hl:h[l]?=some (.lst (sgs m wss))){i:Nat}(hi:i<wss.length):∃b,Qb ns n 53 [.loc 1,.loc l,.int (i:Int)] h=some (.bool b,h)∧(b=true↔ahd wss i):=by
 refine q0 ?_;intro Q
 obtain⟨ol,od,ow⟩:=O
 have len:(sgs m wss).length=wss.length:=List.length_map _
 have H:=Q4 (t:=.one 3) (body:=QN Ph) (src:=.rng 0 (sgs m wss).length) (C:=Qb ns (n - 1)) (ns:=ns) (K:=wss.length) (items:=fun j=>.int (j:Int))
  (fun k ρ h'=>h'=h∧(∃x,ρ=[.loc 1,.loc l,.int (i:Int),x])∧∀j wi wj,j<k→j≠i→wss[i]?=some wi→wss[j]?=some wj→leW wi wj=true)
  (fun v h'=>h'=h∧v=.bool false∧¬ahd wss i)
  (by intro k ρ h' _;simp only[Je,len])
  (by
   intro k ρ h' lt hI;obtain⟨rfl,⟨x,rfl⟩,st⟩:=hI
   refine⟨[.loc 1,.loc l,.int (i:Int),.int (k:Int)],rfl,?_⟩
   refine q2 i k ?_;intro Q;have hwi:=List.getElem?_eq_getElem hi
   have hwk:=List.getElem?_eq_getElem lt
   have ii:Yw (sgs m wss) (i:Int)=some (Ql m wss[i]):=YI (by exact o190 hi ol len) (by unfold sgs;rw[List.getElem?_map,hwi];rfl)
   have ik:Yw (sgs m wss) (k:Int)=some (Ql m wss[k]):=YI (by exact o191 lt ol hi len) (by unfold sgs;simp only[List.getElem?_map,hwk];rfl)
   have ek:eqV h' EQ (.int (k:Int)) (.int (i:Int))=some (Nat.beq k i):=Ni
   by_cases q:k=i
   ·subst q
    rw[Nat.beq_refl]at ek
    refine⟨.nxt,[.loc 1,.loc l,.int (k:Int),.int (k:Int)],h',?_,Or.inr ⟨Or.inl rfl,rfl,⟨_,rfl⟩,?_⟩⟩
    ·unfold Ph
     walk_at "ss"
    ·intro j wi wj hj ne a b
     exact st j wi wj (by omega) ne a b
   ·rw[Yo q]at ek
    have ne:wss[i]≠wss[k]:=fun e=>q ((List.getElem_inj od).mp e).symm
    have sp:=G3 (ns:=ns) (n:=n - 1) (m:=m) (by omega) K (ow _ (List.getElem_mem hi)).1 (ow _ (List.getElem_mem lt)).1 (ow _ (List.getElem_mem hi)).2 (ow _ (List.getElem_mem lt)).2 ne
    clear ne;cases r:leW wss[i] wss[k]with
    |true=>
     clear q;rw[r]at sp
     refine⟨.nxt,[.loc 1,.loc l,.int (i:Int),.int (k:Int)],h',?_,Or.inr ⟨Or.inl rfl,rfl,⟨_,rfl⟩,?_⟩⟩
     ·unfold Ph
      walk_at "ss"
     ·intro j wi wj hj ne a b
      rcases Nat.lt_or_ge j k with c|c
      ·exact st j wi wj c ne a b
      ·have:j=k:=by exact o44 hj c
       clear c hj;subst this
       rw[hwi]at a
       rw[hwk]at b
       cases a
       cases b
       exact r
    |false=>
     rw[r]at sp
     refine⟨.ret (.bool false),[.loc 1,.loc l,.int (i:Int),.int (k:Int)],h',?_,Or.inl ⟨_,rfl,rfl,rfl,?_⟩⟩
     ·unfold Ph
      walk_at "ss"
     ·intro A
      have:=A k _ _ q hwi hwk
      rw[r]at this
      cases this)
  wss.length 0 64 [.loc 1,.loc l,.int (i:Int),.unb] h (by exact o30) (by exact o47 len ol) ⟨rfl,⟨_,rfl⟩,fun j Z Z hj=>by exact o192 hj⟩
 clear K;obtain⟨fl,ρ',h',e,r⟩:=H
 have rg:ZH 0 (((sgs m wss).length:Nat):Int) h=some (.rng 0 (sgs m wss).length,h):=J7 (by omega)
 have shl:QG (sgs m wss)=true:=Yu (by omega)
 rcases r with ⟨v,rfl,rfl,rfl,na⟩|⟨rfl,rfl,⟨x,rfl⟩,st⟩
 ·refine⟨false,?_,by simp[na]⟩
  apply L_v
  ·omega
  ·rfl
  ·apply Qd C8
   ·apply Qt
    ·apply YG
     ·(with_reducible apply ZG)
      ·walk_at "e"
      ·assumption
     ·exact e
    ·exact BW
   ·exact rfl
  ·walk_at "ext"
  ·exact rfl
 ·refine⟨true,?_,by
   simp only[true_iff]
   intro j wi wj ne a b
   refine st j wi wj ?_ ne a b
   exact Qc b⟩
  apply L_v
  ·omega
  ·rfl
  ·apply Qd C8
   ·apply Qt
    ·apply YG
     ·(with_reducible apply ZG)
      ·walk_at "e"
      ·assumption
     ·exact e
    ·apply Q2
     walk_at "ss"
   ·exact rfl
  ·walk_at "ext"
  ·exact rfl
end
end
section
section
variable {ns:List Int} {n:Nat} {h:H} {m l:Nat} {ws vs:List Nat} {wss:List (List Nat)}
def Fr:List SX:=[(sIf (ZO (tE (Qn 52 [(Qa 0),(Qi (Qa 1) (Qa 2)),(Qi (Qa 1) (Qa 3))]))) [(sSet 2 (Qa 3))] [])]
theorem XJ (hn:11≤n)(K:KI h)(O:OkW wss)(hl:h[l]?=some (.lst (sgs m wss)))(h0:0<wss.length):(∃i:Nat,i<wss.length∧ahd wss i∧Qb ns n 54 [.loc 1,.loc l] h=some (.int (i:Int),h))∨((∀i,i<wss.length→¬ahd wss i)∧Qb ns n 54 [.loc 1,.loc l] h=some (.none,h)):=by
 refine q0 ?_;intro Q
 have O':=O
 obtain⟨ol,od,ow⟩:=O'
 have len:(sgs m wss).length=wss.length:=List.length_map _
 have KE:KI (h++[.lst []]):=K.ext (.snoc .refl)
 have hl2:(h++[AO.lst []])[l]?=some (.lst (sgs m wss)):=Qf hl
 have H:=Q4 (t:=.one 3) (body:=QN Fr) (src:=.rng (1:Nat) (wss.length - 1)) (C:=Qb ns (n - 1)) (ns:=ns) (K:=wss.length - 1) (items:=fun j=>.int ((1+j:Nat):Int))
  (fun k ρ h'=>h'=h++[AO.lst []]∧∃(hd:Nat) (x:PV),ρ=[.loc 1,.loc l,.int (hd:Int),x]∧hd<1+k∧hd<wss.length∧∀i,i<1+k→i<wss.length→ahd wss i→hd=i)
  (fun v h'=>False)
  (by intro k ρ h' _;simp only[Hu];simp)
  (by
   rintro k ρ h' lt ⟨rfl,hd,x,rfl,c1,c2,st⟩
   refine⟨[.loc 1,.loc l,.int (hd:Int),.int ((1+k:Nat):Int)],rfl,?_⟩
   refine q0 ?_;intro Q;have lt2:1+k<wss.length:=by exact o193 h0 ol lt len
   have hwi:=List.getElem?_eq_getElem c2
   have hwk:=List.getElem?_eq_getElem lt2
   have ii:Yw (sgs m wss) (hd:Int)=some (Ql m wss[hd]):=YI (by exact o194 h0 lt2 ol c1 len) (by unfold sgs;rw[List.getElem?_map,hwi];rfl)
   have ik:Yw (sgs m wss) ((1+k:Nat):Int)=some (Ql m wss[1+k]):=YI (by exact o195 h0 lt2 ol len) (by unfold sgs;rw[List.getElem?_map,hwk];rfl)
   have ne:wss[hd]≠wss[1+k]:=fun e=>by have:=(List.getElem_inj od).mp e;omega
   have sp:=G3 (ns:=ns) (n:=n - 1) (m:=m) (by omega) KE (ow _ (List.getElem_mem c2)).1 (ow _ (List.getElem_mem lt2)).1 (ow _ (List.getElem_mem c2)).2 (ow _ (List.getElem_mem lt2)).2 ne
   cases r:leW wss[hd] wss[1+k]with
   |true=>
    rw[r]at sp
    refine⟨.nxt,[.loc 1,.loc l,.int (hd:Int),.int ((1+k:Nat):Int)],h++[AO.lst []],?_,Or.inr ⟨Or.inl rfl,rfl,hd,_,rfl,by exact o196 c1,c2,?_⟩⟩
    ·unfold Fr
     walk_at "ss"
    ·intro i hi hi2 A
     rcases Nat.lt_or_ge i (1+k)with c|c
     ·exact st i c hi2 A
     ·have:i=1+k:=by exact o197 hi c
      subst this
      have:=A hd _ _ (by exact o198 c1) hwk hwi
      exact absurd (Ws (ow _ (List.getElem_mem c2)).2 (ow _ (List.getElem_mem lt2)).2 r this) ne
   |false=>
    rw[r]at sp
    refine⟨.nxt,[.loc 1,.loc l,.int ((1+k:Nat):Int),.int ((1+k:Nat):Int)],h++[AO.lst []],?_,Or.inr ⟨Or.inl rfl,rfl,1+k,_,rfl,by exact o199,lt2,?_⟩⟩
    ·unfold Fr
     walk_at "ss"
    ·intro i hi hi2 A
     rcases Nat.lt_or_ge i (1+k)with c|c
     ·have:=st i c hi2 A
      subst this
      have:=A (1+k) _ _ (by exact o200 c1) hwi hwk
      rw[r]at this
      cases this
     ·exact o201 hi c)
  (wss.length - 1) 0 64 [.loc 1,.loc l,.int (0:Nat),.unb] (h++[.lst []]) (by exact o202) (by exact o203 h0 ol len) ⟨rfl,0,_,rfl,by omega,h0,fun i hi Z Z=>by exact o204 hi⟩
 obtain⟨fl,ρ',h',e,r⟩:=H
 rcases r with ⟨v,rfl,F⟩|⟨rfl,rfl,hd,x,rfl,c1,c2,st⟩
 ·exact F.elim
 have rg:ZH 1 (((sgs m wss).length:Nat):Int) (h++[AO.lst []])=some (.rng (1:Nat) (wss.length - 1),h++[AO.lst []]):=by rw[len];exact K0 (j:=1) (by omega) (by omega)
 have shl:QG (sgs m wss)=true:=Yu (by omega)
 have he:eqV (h++[AO.lst []]) EQ (.loc l) (.loc h.length)=some false:=YU (Qf hl) Qe (by rw[Yo (by rw[len];show wss.length≠0;exact o83 h0 ol len)])
 obtain⟨b,ca,ib⟩:=SN (ns:=ns) (n:=n - 1) (by omega) KE O hl2 c2
 cases b with
 |true=>
  refine Or.inl ⟨hd,c2,ib.mp rfl,?_⟩
  apply L_v
  ·omega
  ·rfl
  ·apply Qd A4
   ·apply Qt
    ·walk_at "s"
    apply Q2
    apply Qt
    ·walk_at "s"
    apply Q2
    apply Qt
    ·apply YG
     ·(with_reducible apply GV)
      ·walk_at "e"
      ·walk_at "e"
      ·assumption
     ·exact e
    apply Q2
    walk_at "ss"
   ·exact rfl
  ·walk_at "ext"
  ·exact rfl
 |false=>
  refine Or.inr ⟨fun i hi A=>?_,?_⟩
  ·have:=st i (by exact o205 h0 ol hi len) hi A
   subst this
   exact absurd (ib.mpr A) (by simp)
  ·apply L_v
   ·omega
   ·rfl
   ·apply Qd A4
    ·apply Qt
     ·walk_at "s"
     apply Q2
     apply Qt
     ·walk_at "s"
     apply Q2
     apply Qt
     ·apply YG
      ·(with_reducible apply GV)
       ·walk_at "e"
       ·walk_at "e"
       ·assumption
      ·exact e
     apply Q2
     walk_at "ss"
    ·exact rfl
   ·walk_at "ext"
   ·exact rfl
end
end
section
structure Gm where
 num:Nat
 nm:Nat
 ws:List Nat
 lo:Nat
 nl:Nat
 wl:Nat
 fr:Nat
 to:Option Nat
def toV:Option Nat→PV
 |none=>.none
 |some t=>.int (t:Int)
def YC (i:Nat)(g:Gm):AO:=.ins 7 [(41,.int (i:Int)),(22,.sym g.nm),(23,Ql g.nm g.ws),(42,.loc g.nl),(43,.bool false),(44,.none),(45,.none),(24,.int (g.fr:Int)),(46,toV g.to)]
def liveB (w:Nat)(g:Gm):Bool:=Nat.ble g.fr w&&(match g.to with
 |none=>true
 |some t=>Nat.blt w t)
def Nm (nm:Nat):Prop:=nm=15∨nm=16
def ofN (nm:Nat)(gs:List Gm):List Gm:=gs.filter fun g=>Nat.beq g.nm nm
def QQ (gs:List Gm):List PV:=gs.map fun g=>.loc g.lo
structure TS (h:H) (gs:List Gm) (W:Nat):Prop where
 k:KI h
 t:h[32]?=some (.ins 9 [(4,.loc 1),(21,.loc 33),(50,.loc 34),(51,.int (W:Int))])
 d:∃ds,h[33]?=some (.dct ds)∧∀nm,Nm nm→(QP (.sym nm) ds=some none∧ofN nm gs=[])∨∃tl ll,QP (.sym nm) ds=some (some (.loc tl))∧h[tl]?=some (.ins 8 [(30,.sym nm),(47,.loc ll)])∧h[ll]?=some (.lst (QQ (ofN nm gs)))
 a:h[34]?=some (.lst (QQ gs))
 m:∀i g,gs[i]?=some g→h[g.lo]?=some (YC i g)
 nu:∀(i:Nat) (g:Gm),gs[i]?=some g→g.num=i
 len:gs.length≤50
 wf:∀g∈gs,Nm g.nm∧L12 g.ws∧Wds g.ws∧g.fr≤W
 nd:gs.Pairwise fun a b=>∀w,a.nm=b.nm→liveB w a=true→liveB w b=true→a.ws≠b.ws
theorem TS.ext {h h':H}{gs:List Gm}{W:Nat}(T:TS h gs W)(E:Ext h h'):TS h' gs W:=by
 obtain⟨k,t,⟨ds,d,q⟩,a,m,nu,len,wf,nd⟩:=T
 refine⟨k.ext E,E.get t,⟨ds,E.get d,fun nm hn=>?_⟩,E.get a,fun i g e=>E.get (m i g e),nu,len,wf,nd⟩
 rcases q nm hn with r|⟨tl,ll,r1,r2,r3⟩
 ·exact Or.inl r
 ·exact Or.inr ⟨tl,ll,r1,E.get r2,E.get r3⟩
theorem TS.nodup {h:H}{gs:List Gm}{W:Nat}(T:TS h gs W)(nm w:Nat):((gs.filter fun g=>Nat.beq g.nm nm&&liveB w g).map (·.ws)).Nodup:=by
 unfold List.Nodup
 rw[List.pairwise_map,List.pairwise_filter]
 refine T.nd.imp ?_
 intro a b q ha hb
 simp only[Bool.and_eq_true]at ha hb
 exact q w ((Nat.eq_of_beq_eq_true ha.1).trans (Nat.eq_of_beq_eq_true hb.1).symm) ha.2 hb.2
theorem TS.dist {h:H}{gs:List Gm}{W i j w:Nat}{a b:Gm}(T:TS h gs W)(ea:gs[i]?=some a)(eb:gs[j]?=some b)(ne:i≠j)(hn:a.nm=b.nm)(la:liveB w a=true)(lb:liveB w b=true):a.ws≠b.ws:=by
 have P:=List.pairwise_iff_getElem.mp T.nd
 obtain⟨hi,rfl⟩:=List.getElem?_eq_some_iff.mp ea
 obtain⟨hj,rfl⟩:=List.getElem?_eq_some_iff.mp eb
 rcases Nat.lt_or_gt_of_ne ne with c|c
 ·exact P i j hi hj c w hn la lb
 ·exact(P j i hj hi c w hn.symm lb la).symm
section
variable {ns:List Int} {n:Nat} {h:H} {gs:List Gm} {W w i nm:Nat} {g:Gm}
theorem IM {i j:Nat}:(fun a b:Int=>decide (a<b)) (i:Int) (j:Int)=Nat.blt i j:=by
 show decide ((i:Int)<(j:Int))=_
 cases q:Nat.blt i j with
 |true=>
  have:=Nat.le_of_ble_eq_true q
  simp;omega
 |false=>
  have:¬i<j:=fun c=>by
   have:Nat.blt i j=true:=Nat.ble_eq_true_of_le c
   rw[q]at this;cases this
  simp;exact o45 this
theorem OP {i j:Nat}:Nat.ble i j=!Nat.blt j i:=by
 cases q:Nat.blt j i with
 |true=>
  have:=Nat.le_of_ble_eq_true q
  cases r:Nat.ble i j with
  |true=>exact absurd (Nat.le_of_ble_eq_true r) (Nat.not_le.mpr this)
  |false=>rfl
 |false=>
  cases r:Nat.ble i j with
  |true=>rfl
  |false=>
   have:¬i≤j:=fun c=>by rw[Nat.ble_eq_true_of_le c]at r;cases r
   exact ff (q.symm.trans (Nat.ble_eq_true_of_le (Nat.not_le.mp this)))
theorem VP (hn:1≤n){l:Nat}(hm:h[l]?=some (YC i g)):Qb ns n 50 [.loc l,.int (w:Int)] h=some (.bool (liveB w g),h):=by
 obtain⟨num,nm,ws,lo,nl,wl,fr,to⟩:=g
 unfold YC at hm
 dsimp only at hm
 have c1:(fun a b:Int=>decide (a<b)) (w:Int) (fr:Int)=Nat.blt w fr:=IM
 cases q:Nat.blt w fr with
 |true=>
  rw[q]at c1
  apply L_v
  ·omega
  ·rfl
  ·apply Qd EU
   ·walk_at "body"
   ·show PV.bool true.not=_
    simp only[liveB,OP,q];rfl
  ·walk_at "ext"
  ·exact rfl
 |false=>
  rw[q]at c1
  cases to with
  |none=>
   unfold toV at hm
   apply L_v
   ·omega
   ·rfl
   ·apply Qd EU
    ·walk_at "body"
    ·show PV.bool true=_
     simp only[liveB,OP,q];rfl
   ·walk_at "ext"
   ·exact rfl
  |some t=>
   unfold toV at hm
   dsimp only at hm
   have c2:(fun a b:Int=>decide (a<b)) (w:Int) (t:Int)=Nat.blt w t:=IM
   apply L_v
   ·omega
   ·rfl
   ·apply Qd EU
    ·walk_at "body"
    ·show PV.bool ((fun a b:Int=>decide (a<b)) (w:Int) (t:Int))=_
     rw[c2]
     simp only[liveB,OP,q];rfl
   ·walk_at "ext"
   ·exact rfl
end
end
section
section
variable {ns:List Int} {n:Nat} {h:H} {gs:List Gm} {W w i nm:Nat} {g:Gm}
def QL (nm w:Nat)(gs:List Gm):List Gm:=gs.filter fun g=>Nat.beq g.nm nm&&liveB w g
theorem HA (nm w:Nat)(gs:List Gm):(ofN nm gs).filter (liveB w)=QL nm w gs:=by
 unfold ofN QL
 rw[List.filter_filter]
 congr 1
 funext g
 rw[Bool.and_comm]
theorem TS.mem (T:TS h gs W){g:Gm}(hg:g∈gs):∃i,gs[i]?=some g∧h[g.lo]?=some (YC i g):=by
 obtain⟨i,e⟩:=List.mem_iff_getElem?.mp hg
 exact⟨i,e,T.m i g e⟩
theorem Wr (T:TS h gs W):∀xs:List Gm,(∀g∈xs,g∈gs)→Yc h.length (QQ xs)=true
 |[],_=>rfl
 |x::xs,m=>by
  show(Yp h.length (.loc x.lo)&&Yc h.length (QQ xs))=true
  obtain⟨i,_,e⟩:=T.mem (m x (by simp))
  rw[Ui (Qc e),Wr T xs fun g hg=>m g (by simp[hg])]
  rfl
theorem RZ (hn:2≤n)(T:TS h gs W){tl ll:Nat}(h1:h[tl]?=some (.ins 8 [(30,.sym nm),(47,.loc ll)]))(h2:h[ll]?=some (.lst (QQ (ofN nm gs)))):
  Qb ns n 57 [.loc tl,.int (w:Int)] h=some (.loc h.length,h++[.lst (QQ (QL nm w gs))]):=by
 have sub:∀g∈ofN nm gs,g∈gs:=fun g hg=>(List.mem_filter.mp hg).1
 have X:=YO (C:=Qb ns (n - 1)) (ns:=ns) (t:=.one 2) (ifl:=[tE (Qx (Qa 2) 49 [Qa 1])]) (e:=Qa 2) (it:=QO (Qk (Qa 0) 47)) (src:=.lst ll) (ρ:=[.loc tl,.int (w:Int),.unb]) (h:=h) (h1:=h) (ps:=ofN nm gs) (fun g=>.loc g.lo) (liveB w) (fun g=>.loc g.lo)
  (by walk_at "i") rfl (by have:=T.len;have:=List.length_filter_le (fun g:Gm=>Nat.beq g.nm nm) gs;unfold ofN;exact o208 (by assumption) this)
  (by intro i h' E;rw[YJ (E.get h2)];unfold QQ;rw[List.getElem?_map])
  (by
   intro g hg
   refine⟨[.loc tl,.int (w:Int),.loc g.lo],rfl,?_,?_⟩
   ·intro h' E
    obtain⟨i,_,e⟩:=T.mem (sub g hg)
    have c:=VP (ns:=ns) (n:=n - 1) (w:=w) (by omega) (E.get e)
    have e':=E.get e
    unfold YC at e'
    refine⟨h',?_,.refl⟩
    refine Ys (x:=liveB w g) (h₁:=h') ?_ ?_
    ·walk_at "t"
    ·cases liveB w g<;>exact rfl
   ·intro _ h' E
    refine⟨h',?_,.refl⟩
    walk_at "e")
 obtain⟨h',e,E⟩:=X
 rw[HA]at E
 have el:h'[h.length]?=some (.lst (QQ (QL nm w gs))):=E.get Qe
 refine L_n (by omega) rfl ?_ (Ext.trans (.snoc .refl) E) (Nat.le_refl _) el ?_
 ·apply Qd Qam
  ·apply Qt
   ·apply NB e
   ·exact BW
  ·exact rfl
 ·show Yc h.length (QQ (QL nm w gs))=true
  exact Wr T _ fun g hg=>(List.mem_filter.mp hg).1
theorem H9 (hn:3≤n)(T:TS h gs W)(hm:Nm nm):Qb ns n 61 [.loc 32,.sym nm,.int (w:Int)] h=some (.loc h.length,h++[.lst (QQ (QL nm w gs))]):=by
 refine q0 ?_;intro Q;obtain⟨ds,hd,q⟩:=T.d
 have ht:=T.t
 have lo:Yc h.length (QQ (QL nm w gs))=true:=Wr T _ fun g hg=>(List.mem_filter.mp hg).1
 rcases q nm hm with ⟨q1,q2⟩|⟨tl,ll,q1,q2,q3⟩
 ·dsimp only[Q];rw[←HA,q2]
  refine L_n (o:=.lst []) (by omega) rfl ?_ (Ext.snoc .refl) (Nat.le_refl _) Qe rfl
  apply Qd AM
  ·walk_at "body"
  ·exact rfl
 ·have c:=RZ (ns:=ns) (n:=n - 1) (w:=w) (by omega) T q2 q3
  refine L_n (by omega) rfl ?_ (Ext.snoc .refl) (Nat.le_refl _) Qe lo
  apply Qd AM
  ·walk_at "body"
  ·exact rfl
end
end
section
inductive Ms:List Gm→List PV→Prop
 |nil:Ms [] []
 |snoc {gs:List Gm} {ps:List PV} {g:Gm} {d:Nat}:Ms gs ps→Ms (gs++[g]) (ps++[.tup [.loc g.lo,.loc d]])
theorem Ms.len {gs:List Gm}{ps:List PV}(P:Ms gs ps):ps.length=gs.length:=by
 induction P with
 |nil=>rfl
 |snoc _ ih=>simp[ih]
theorem Ms.get {gs:List Gm}{ps:List PV}(P:Ms gs ps):∀{i:Nat} {g:Gm},gs[i]?=some g→∃d,ps[i]?=some (.tup [.loc g.lo,.loc d]):=by
 induction P with
 |nil=>intro i g e;cases e
 |@snoc gs ps g' d P ih=>
  intro i g e
  rcases Nat.lt_or_ge i gs.length with c|c
  ·rw[List.getElem?_append_left c]at e
   obtain⟨d,r⟩:=ih e
   exact⟨d,by rw[List.getElem?_append_left (by rw[P.len];exact c)];exact r⟩
  ·rw[List.getElem?_append_right c]at e
   have hi:i=gs.length:=by
    rcases Nat.eq_or_lt_of_le c with q|q
    ·exact q.symm
    ·rw[List.getElem?_eq_none (by simp;exact o209 q)]at e;cases e
   clear c;subst hi
   simp at e
   subst e
   exact⟨d,by rw[←P.len];simp⟩
section
variable {ns:List Int} {n f:Nat} {h h':H} {gs:List Gm} {W w i nm l:Nat} {g:Gm} {vs:List Nat} {ps args:List PV}
theorem Oi (hn:1≤n)(lo:Jb f=false)(e:Q0 (Qb ns (n - 1)) ns f args h=some (.loc l,h'))(E:Ext h h')(hl:h.length≤l)(hp:h'[l]?=some (.lst ps)):∃l₂ h₂,Qb ns n f args h=some (.loc l₂,h₂)∧Ext h h₂∧h.length≤l₂∧h₂[l₂]?=some (.lst ps):=by
 cases q:JI h.length (.lst ps)with
 |true=>exact⟨_,_,L_n hn lo e E hl hp q,.snoc .refl,Nat.le_refl _,Qe⟩
 |false=>
  refine⟨l,h',L_k hn lo e ?_,E,hl,hp⟩
  clear e;obtain⟨X,rfl⟩:=E
  unfold gcU
  dsimp only
  rewrite [List.take_left,if_pos rfl,SK hl,if_neg (by simp),hp]
  dsimp only
  rw[q,Bool.and_false,if_neg (by simp)]
def fbody:List SX:=[(sSet 6 (Qn 21 [(Qk (Qa 0) 4),(Qa 2),(Qk (Qa 5) 23)])),(sIf (tE (ZC (Qa 6) QT)) [(sExp (Q8 (Qa 4) (QK [(Qa 5),(Qa 6)])))] [])]
def fitL (vs:List Nat)(L:List Gm):List Gm:=L.filter fun g=>leW vs g.ws
theorem Y1 {α:Type}{xs:List α}{k:Nat}{x:α}(e:xs[k]?=some x):xs.take (k+1)=xs.take k++[x]:=by
 simp only[List.take_add_one,e];rfl
theorem AN (hn:12≤n)(T:TS h gs W)(hm:Nm nm)(hv:L12 vs)(dv:Wds vs):∃l h' ps,Qb ns n 62 [.loc 32,.sym nm,Ql nm vs,.int (w:Int)] h=some (.loc l,h')∧Ext h h'∧h.length≤l∧h'[l]?=some (.lst ps)∧Ms (fitL vs (QL nm w gs)) ps:=by
 generalize hL:QL nm w gs=L
 refine q0 ?_;intro Q
 have sub:∀g∈L,g∈gs:=fun g hg=>by rw[←hL]at hg;exact(List.mem_filter.mp hg).1
 have sn:∀g∈L,g.nm=nm:=fun g hg=>by
  rw[←hL]at hg
  have:=(List.mem_filter.mp hg).2
  simp only[Bool.and_eq_true]at this
  exact Nat.eq_of_beq_eq_true this.1
 have ll:L.length≤50:=by rw[←hL];exact Nat.le_trans (List.length_filter_le _ _) T.len
 have len:(QQ L).length=L.length:=List.length_map _
 have al:=H9 (ns:=ns) (n:=n - 1) (w:=w) (by omega) (T.ext (.snoc .refl:Ext h (h++[.lst []]))) hm
 rewrite [hL]at al
 have q1:(h++[AO.lst []]).length=h.length+1:=by simp
 have H:=Q4 (t:=.one 5) (body:=QN fbody) (src:=.lst (h++[AO.lst []]).length) (C:=Qb ns (n - 1)) (ns:=ns) (K:=L.length) (items:=fun k=>(QQ L).getD k .unb)
  (fun k ρ h'=>Ext h h'∧(∃x y,ρ=[.loc 32,.sym nm,Ql nm vs,.int (w:Int),.loc h.length,x,y])∧(∃ps,h'[h.length]?=some (.lst ps)∧Ms (fitL vs (L.take k)) ps)∧h'[(h++[AO.lst []]).length]?=some (.lst (QQ L)))
  (fun v h'=>False)
  (by
   rintro k ρ h' ⟨_,_,_,e⟩
   rw[YJ e]
   split
   ·rename_i c
    rewrite [List.getElem?_eq_getElem (by rw[len];exact c),List.getD_eq_getElem?_getD,List.getElem?_eq_getElem (by rw[len];exact c)]
    rfl
   ·rename_i c
    rw[List.getElem?_eq_none (by rw[len];exact o34 len c)])
  (by
   intro k ρ h' lt hI;obtain⟨E,⟨x,y,rfl⟩,⟨ps,e1,P⟩,e2⟩:=hI
   have eg:=List.getElem?_eq_getElem lt
   generalize L[k]=g at eg
   have mg:g∈L:=List.mem_of_getElem? eg
   have it:(QQ L).getD k .unb=.loc g.lo:=by
    rw[List.getD_eq_getElem?_getD]
    unfold QQ
    rw[List.getElem?_map,eg]
    rfl
   simp only[it]
   refine⟨[.loc 32,.sym nm,Ql nm vs,.int (w:Int),.loc h.length,.loc g.lo,y],rfl,?_⟩
   refine q0 ?_;intro Q;have T':=T.ext E
   have ht:=T'.t
   obtain⟨i,_,em⟩:=T'.mem (sub g mg)
   unfold YC at em
   obtain⟨_,gw,gd,_⟩:=T.wf g (sub g mg)
   rw[sn g mg]at em
   have hk:=Y1 eg
   cases r:leW vs g.ws with
   |false=>
    have c:=Sf (ns:=ns) (n:=n - 1) (m:=nm) (by omega) T'.k hv gw dv gd r
    refine⟨.nxt,[.loc 32,.sym nm,Ql nm vs,.int (w:Int),.loc h.length,.loc g.lo,.none],h',?_,Or.inr ⟨Or.inl rfl,E,⟨_,_,rfl⟩,⟨ps,e1,?_⟩,e2⟩⟩
    ·unfold fbody
     walk_at "ss"
    ·rw[hk]
     unfold fitL
     rewrite [List.filter_append,List.filter_cons_of_neg (by rw[r];simp),List.filter_nil,List.append_nil]
     exact P
   |true=>
    refine q0 ?_;intro Q;have c:=Sq (ns:=ns) (n:=n - 1) (m:=nm) (by omega) T'.k hv gw dv gd r
    have pl:ps.length≤50:=by
     rw[P.len]
     unfold fitL
     exact Nat.le_trans (List.length_filter_le _ _) (by rw[List.length_take];exact o210 lt ll len)
    have sh:QG ps=true:=Yu (by omega)
    have e1':(h'++[AO.dct []])[h.length]?=some (.lst ps):=Qf e1
    have lg:=Qc em
    obtain⟨h4,r4,a4,b4,c4,d4⟩:=QC e1' (.lst (ps++[.tup [.loc g.lo,.loc h'.length]]))
    refine⟨.nxt,[.loc 32,.sym nm,Ql nm vs,.int (w:Int),.loc h.length,.loc g.lo,.loc h'.length],h4,?_,Or.inr ⟨Or.inl rfl,d4 h (E.snoc) (Nat.le_refl _),⟨_,_,rfl⟩,⟨_,a4,?_⟩,(b4 _ (by rw[q1];exact o211)).trans (Qf e2)⟩⟩
    ·unfold fbody
     walk_at "ss"
    ·rw[hk]
     unfold fitL
     rw[List.filter_append,List.filter_cons_of_pos (by rw[r]),List.filter_nil]
     exact .snoc P)
  L.length 0 64 [.loc 32,.sym nm,Ql nm vs,.int (w:Int),.loc h.length,.unb,.unb] (h++[.lst []]++[.lst (QQ L)]) (by exact o30) (by exact o47 len ll) ⟨.snoc (.snoc .refl),⟨_,_,rfl⟩,⟨[],Qf Qe,.nil⟩,Qe⟩
 obtain⟨fl,ρ',h',e,r⟩:=H
 rcases r with ⟨v,rfl,F⟩|⟨rfl,E,⟨x,y,rfl⟩,⟨ps,e1,P⟩,e2⟩
 ·exact F.elim
 rw[List.take_length]at P
 have st:Q0 (Qb ns (n - 1)) ns 62 [.loc 32,.sym nm,Ql nm vs,.int (w:Int)] h=some (.loc h.length,h'):=by
  apply Qd Qby
  ·apply Qt
   ·walk_at "s"
   apply Q2
   apply Qt
   ·apply YG
    ·have ht:(h++[AO.lst []])[32]?=_:=Qf T.t
     walk_at "i"
    ·exact e
   apply Q2
   walk_at "ss"
  ·exact rfl
 obtain⟨l₂,h₂,c,a,b,d⟩:=Oi (by omega) rfl st E (Nat.le_refl _) e1
 exact⟨l₂,h₂,ps,c,a,b,d,P⟩
end
end
section
def pvF (x:Gm×Nat):PV:=.tup [.loc x.1.lo,.loc x.2]
theorem Ms.map {gs:List Gm}{ps:List PV}(P:Ms gs ps):∃xs:List (Gm×Nat),ps=xs.map pvF∧xs.map (·.1)=gs:=by
 induction P with
 |nil=>exact⟨[],rfl,rfl⟩
 |@snoc gs ps g d P ih=>
  obtain⟨xs,a,b⟩:=ih
  exact⟨xs++[(g,d)],by simp[a,pvF],by simp[b]⟩
section
variable {ns:List Int} {n f:Nat} {h h':H} {gs:List Gm} {W w i nm l:Nat} {g:Gm} {vs:List Nat} {ps args:List PV}
theorem TS.okW (T:TS h gs W){F:List Gm}(s:List.Sublist F (QL nm w gs)):OkW (F.map (·.ws)):=by
 refine⟨?_,?_,?_⟩
 ·rw[List.length_map]
  exact Nat.le_trans s.length_le (Nat.le_trans (List.length_filter_le _ _) T.len)
 ·exact List.Nodup.sublist (List.Sublist.map _ s) (T.nodup nm w)
 ·intro ws hw
  obtain⟨g,hg,rfl⟩:=List.mem_map.mp hw
  have:=T.wf g (List.mem_filter.mp (s.subset hg)).1
  exact⟨this.2.1,this.2.2.1⟩
inductive Lk (F:List Gm) (h':H):PV→Prop
 |none:F=[]→Lk F h' (.tup [.sym 22])
 |one {i:Nat} {g:Gm} {d:Nat}:F[i]?=some g→ahd (F.map (·.ws)) i→Lk F h' (.tup [.sym 19,.loc g.lo,.loc d])
 |many {l:Nat}:2≤F.length→(∀i,i<F.length→¬ahd (F.map (·.ws)) i)→h'[l]?=some (.lst (QQ F))→Lk F h' (.tup [.sym 20,.loc l])
theorem Bv {F:List Gm}{p:PV}(hn:1≤n)(lo:Jb f=false)(e:Q0 (Qb ns (n - 1)) ns f args h=some (p,h'))(E:Ext h h')(L:Lk F h' p)(LL:Yp h.length p=true→Lk F h p):∃p₂ h₂,Qb ns n f args h=some (p₂,h₂)∧Ext h h₂∧Lk F h₂ p₂:=by
 cases q:Yp h.length p with
 |true=>exact⟨p,h,L_v hn lo e E q,.refl,LL q⟩
 |false=>
  clear LL;refine⟨p,h',L_k hn lo e ?_,E,L⟩
  clear e;obtain⟨X,rfl⟩:=E
  unfold gcU
  dsimp only
  rewrite [List.take_left,if_pos rfl,q,if_neg (by simp)]
  clear q;cases L<;>rfl
theorem EL (hn:13≤n)(T:TS h gs W)(hm:Nm nm)(hv:L12 vs)(dv:Wds vs):∃p h',Qb ns n 63 [.loc 32,.sym nm,Ql nm vs,.int (w:Int)] h=some (p,h')∧Ext h h'∧Lk (fitL vs (QL nm w gs)) h' p:=by
 obtain⟨l,h1,ps,c1,E1,ll,e1,P⟩:=AN (ns:=ns) (n:=n - 1) (w:=w) (by omega) T hm hv dv
 have sub:List.Sublist (fitL vs (QL nm w gs)) (QL nm w gs):=List.filter_sublist
 generalize hF:fitL vs (QL nm w gs)=F at*
 refine q0 ?_;intro Q
 clear hF;have O:=T.okW sub
 have sg:∀g∈F,g∈gs∧g.nm=nm:=fun g hg=>by
  have:=List.mem_filter.mp (sub.subset hg)
  simp only[Bool.and_eq_true]at this
  exact⟨this.1,Nat.eq_of_beq_eq_true this.2.1⟩
 clear sub;have fl:F.length≤50:=by have:=O.1;rwa [List.length_map]at this
 have pl:=P.len
 have sh:QG ps=true:=Yu (by omega)
 have ht:=T.t
 have ht1:=E1.get ht
 by_cases q0:F=[]
 ·subst q0
  have:ps=[]:=List.length_eq_zero_iff.mp pl
  clear pl;subst this
  have he:eqV (h1++[AO.lst []]) EQ (.loc l) (.loc h1.length)=some true:=YU (Qf e1) Qe rfl
  refine Bv (p:=.tup [.sym 22]) (h':=h1++[.lst []]) (by omega) rfl ?_ E1.snoc (.none rfl) (fun Z=>.none rfl)
  apply Qd Sd
  ·walk_at "body"
  ·exact rfl
 have f0:0<F.length:=List.length_pos_iff.mpr q0
 have he:eqV (h1++[AO.lst []]) EQ (.loc l) (.loc h1.length)=some false:=YU (Qf e1) Qe (by rw[Yo (by rw[pl];show F.length≠0;exact o83 f0 fl pl)])
 have hl:eqV (h1++[AO.lst []]) EQ (.int (ps.length:Int)) (.int 1)=some (Nat.beq ps.length 1):=Ni (j:=1)
 by_cases q1:F.length=1
 ·rw[pl,q1]at hl
  have eg:=List.getElem?_eq_getElem f0
  generalize F[0]=g at eg
  obtain⟨d,eg'⟩:=P.get eg
  have i0:Yw ps 0=some (.tup [.loc g.lo,.loc d]):=YI (j:=0) (by omega) eg'
  have ah:ahd (F.map (·.ws)) 0:=fun j wi wj ne a b=>by
   have:=Qc b
   rw[List.length_map]at this
   exact o212 this ne q1 pl
  have hl':eqV (h1++[AO.lst []]) EQ (.int (ps.length:Int)) (.int 1)=some true:=by rewrite [pl,q1];exact hl
  refine Bv (p:=.tup [.sym 19,.loc g.lo,.loc d]) (h':=h1++[.lst []]) (by omega) rfl ?_ E1.snoc (.one eg ah) (fun Z=>.one eg ah)
  apply Qd Sd
  ·walk_at "body"
  ·exact rfl
 ·have hl':eqV (h1++[AO.lst []]) EQ (.int (ps.length:Int)) (.int 1)=some false:=by rw[hl,Yo (fun z=>q1 (pl.symm.trans z))]
  have f2:2≤F.length:=by exact o214 f0 fl pl q1
  obtain⟨xs,px,fx⟩:=P.map
  have xl:xs.length=F.length:=by rw[←fx,List.length_map]
  have X1:=YO (C:=Qb ns (n - 1)) (ns:=ns) (t:=.many [6,7]) (ifl:=[]) (e:=Qk (Qa 6) 23) (it:=QO (Qa 4)) (src:=.lst l) (ρ:=[.loc 32,.sym nm,Ql nm vs,.int (w:Int),.loc l,.unb,.unb,.unb,.unb,.unb]) (h:=h1++[.lst []]) (h1:=h1++[.lst []]) (ps:=xs) pvF (fun Z=>true) (fun x=>Ql nm x.1.ws)
   (by walk_at "i") rfl (by omega)
   (by intro i h' E;rw[YJ (E.get (Qf e1)),px,List.getElem?_map])
   (by
    intro x hx
    refine⟨[.loc 32,.sym nm,Ql nm vs,.int (w:Int),.loc l,.unb,.loc x.1.lo,.loc x.2,.unb,.unb],rfl,fun h' E=>⟨h',rfl,.refl⟩,fun Z h' E=>?_⟩
    have mx:x.1∈F:=by rw[←fx];exact List.mem_map_of_mem hx
    obtain⟨i,_,em⟩:=(T.ext (E1.snoc.trans E)).mem (sg _ mx).1
    unfold YC at em
    rewrite [(sg _ mx).2]at em
    refine⟨h',?_,.refl⟩
    walk_at "e")
  obtain⟨h3,c3,E3⟩:=X1
  have ls:(xs.filter fun Z=>true).map (fun x=>Ql nm x.1.ws)=sgs nm (F.map (·.ws)):=by
   unfold sgs
   rw[←fx,List.filter_eq_self.mpr (fun Z Z=>rfl),List.map_map,List.map_map]
   rfl
  rw[ls]at E3
  have l3:h3[(h1++[AO.lst []]).length]?=some (.lst (sgs nm (F.map (·.ws)))):=E3.get Qe
  have E13:Ext h1 h3:=Ext.trans (.snoc (.snoc .refl)) E3
  have T3:=T.ext (E1.trans E13)
  have e13:=E13.get e1
  rcases XJ (ns:=ns) (n:=n - 1) (m:=nm) (by omega) T3.k O l3 (by rw[List.length_map];exact f0)with ⟨i,il,ai,cb⟩|⟨na,cb⟩
  ·simp only[List.length_map]at il
   have eg:=List.getElem?_eq_getElem il
   generalize F[i]=g at eg
   obtain⟨d,eg'⟩:=P.get eg
   have i0:Yw ps (i:Int)=some (.tup [.loc g.lo,.loc d]):=YI (by exact o215 fl pl f0 f2 xl il) eg'
   refine Bv (p:=.tup [.sym 19,.loc g.lo,.loc d]) (h':=h3) (by omega) rfl ?_ (E1.trans E13) (.one eg ai) (fun Z=>.one eg ai)
   apply Qd Sd
   ·walk_at "body"
   ·exact rfl
  ·have X2:=YO (C:=Qb ns (n - 1)) (ns:=ns) (t:=.many [8,9]) (ifl:=[]) (e:=Qa 8) (it:=QO (Qa 4)) (src:=.lst l) (ρ:=[.loc 32,.sym nm,Ql nm vs,.int (w:Int),.loc l,.none,.unb,.unb,.unb,.unb]) (h:=h3) (h1:=h3) (ps:=xs) pvF (fun Z=>true) (fun x=>.loc x.1.lo)
    (by walk_at "i") rfl (by omega)
    (by intro i h' E;rw[YJ (E.get e13),px,List.getElem?_map])
    (by
     intro x hx
     refine⟨[.loc 32,.sym nm,Ql nm vs,.int (w:Int),.loc l,.none,.unb,.unb,.loc x.1.lo,.loc x.2],rfl,fun h' E=>⟨h',rfl,.refl⟩,fun Z h' E=>?_⟩
     refine⟨h',?_,.refl⟩
     walk_at "e")
   obtain⟨h4,c4,E4⟩:=X2
   have ls:(xs.filter fun Z=>true).map (fun x=>PV.loc x.1.lo)=QQ F:=by
    unfold QQ
    rw[←fx,List.filter_eq_self.mpr (fun Z Z=>rfl),List.map_map]
    rfl
   rw[ls]at E4
   have E14:Ext h h4:=(E1.trans E13).trans (Ext.trans (.snoc .refl) E4)
   have na':∀i,i<F.length→¬ahd (F.map (·.ws)) i:=fun i hi=>na i (by simp only[List.length_map];exact hi)
   refine Bv (p:=.tup [.sym 20,.loc h3.length]) (h':=h4) (by omega) rfl ?_ E14 (.many f2 na' (E4.get Qe)) (fun q=>?_)
   ·apply Qd Sd
    ·walk_at "body"
    ·exact rfl
   ·exfalso
    have q':(Yp h.length (.sym 20)&&(Yp h.length (.loc h3.length)&&true))=true:=q
    rewrite [SK (E1.trans E13).le]at q'
    simp at q'
end
end
section
section
variable {ns:List Int} {n f:Nat} {h h':H} {gs:List Gm} {W w i nm l:Nat} {g:Gm} {vs:List Nat} {ps args:List PV} {A:List Gm}
def metL (vs:List Nat)(L:List Gm):List Gm:=L.filter fun g=>mtW vs g.ws
theorem Jq (hg:g∈QL nm w gs):g∈gs∧g.nm=nm∧liveB w g=true:=by
 have:=List.mem_filter.mp hg
 simp only[Bool.and_eq_true]at this
 exact⟨this.1,Nat.eq_of_beq_eq_true this.2.1,this.2.2⟩
theorem F6 (hn:14≤n)(T:TS h gs W)(hm:Nm nm)(hv:L12 vs)(dv:Wds vs):Qb ns n 64 [.loc 32,.sym nm,Ql nm vs,.int (w:Int)] h=some (.loc h.length,h++[.lst (QQ (metL vs (QL nm w gs)))]):=by
 have al:=H9 (ns:=ns) (n:=n - 1) (w:=w) (by omega) T hm
 have sub:∀g∈QL nm w gs,g∈gs∧g.nm=nm∧liveB w g=true:=fun g=>Jq
 have ll:(QL nm w gs).length≤50:=Nat.le_trans (List.length_filter_le _ _) T.len
 have ht:=T.t
 have X:=YO (C:=Qb ns (n - 1)) (ns:=ns) (t:=.one 4) (ifl:=[tE (eNe (Qn 30 [(Qk (Qa 0) 4),(Qa 2),(Qk (Qa 4) 23)]) (JF QS))]) (e:=Qa 4) (it:=QO (Qx (Qa 0) 53 [(Qa 1),(Qa 3)])) (src:=.lst h.length) (ρ:=[.loc 32,.sym nm,Ql nm vs,.int (w:Int),.unb]) (h:=h) (h1:=h++[.lst (QQ (QL nm w gs))]) (ps:=QL nm w gs) (fun g=>.loc g.lo) (fun g=>mtW vs g.ws) (fun g=>.loc g.lo)
  (by walk_at "i") rfl (by omega)
  (by intro i h' E;rw[YJ (E.get Qe)];unfold QQ;rw[List.getElem?_map])
  (by
   intro g hg
   refine⟨[.loc 32,.sym nm,Ql nm vs,.int (w:Int),.loc g.lo],rfl,?_,?_⟩
   ·intro h' E
    refine q0 ?_;intro Q;have T':=T.ext (Ext.trans (.snoc .refl) E)
    obtain⟨i,_,em⟩:=T'.mem (sub g hg).1
    unfold YC at em
    rewrite [(sub g hg).2.1]at em
    have ht':=T'.t
    obtain⟨_,gw,gd,_⟩:=T.wf g (sub g hg).1
    have c:=Pi (ns:=ns) (n:=n - 1) (m:=nm) (by omega) T'.k hv gw dv gd
    have eb:eqV h' EQ (mT nm vs g.ws) QS=some (!mtW vs g.ws):=Dv hv gw
    refine⟨h',?_,.refl⟩
    refine Ys (x:=!!mtW vs g.ws) (h₁:=h') ?_ ?_
    ·walk_at "t"
    ·cases mtW vs g.ws<;>exact rfl
   ·intro _ h' E
    refine⟨h',?_,.refl⟩
    walk_at "e")
 obtain⟨h',e,E⟩:=X
 have el:h'[(h++[AO.lst (QQ (QL nm w gs))]).length]?=some (.lst (QQ (metL vs (QL nm w gs)))):=E.get Qe
 refine L_n (by omega) rfl ?_ (Ext.trans (.snoc (.snoc .refl)) E) (by simp) el ?_
 ·apply Qd Qax
  ·apply Qt
   ·apply NB e
   ·exact BW
  ·exact rfl
 ·show Yc h.length (QQ (metL vs (QL nm w gs)))=true
  exact Wr T _ fun g hg=>(sub g (List.mem_filter.mp hg).1).1
def BB (vs:List Nat)(g o:Gm):Bool:=!eqW o.ws g.ws&&(leW vs o.ws&&leW o.ws g.ws)
def hid (A:List Gm)(vs:List Nat)(g:Gm):Bool:=A.any (BB vs g)
def Dq:List SX:=[(sIf (Yk [(tE (eNe (Qk (Qa 4) 41) (Qk (Qa 1) 41))),(tE (Qn 19 [(Qk (Qa 0) 4),(Qa 2),(Qk (Qa 4) 23)]))]) [(sIf (tE (Qn 52 [(Qk (Qa 0) 4),(Qk (Qa 4) 23),(Qk (Qa 1) 23)])) [(QA (YH true))] [])] [])]
theorem Qaa (hn:10≤n)(T:TS h gs W)(hv:L12 vs)(dv:Wds vs)(sub:∀o∈A,o∈gs∧o.nm=nm∧liveB w o=true)(al:A.length≤50)(hl:h[l]?=some (.lst (QQ A)))(mg:g∈A):Qb ns n 65 [.loc 32,.loc g.lo,Ql nm vs,.loc l] h=some (.bool (hid A vs g),h):=by
 refine q0 ?_;intro Q
 obtain⟨ig,eg,emg⟩:=T.mem (sub g mg).1
 have len:(QQ A).length=A.length:=List.length_map _
 have ht:=T.t
 have emg':=emg
 unfold YC at emg'
 rw[(sub g mg).2.1]at emg'
 obtain⟨_,gw,gd,_⟩:=T.wf g (sub g mg).1
 have H:=Q4 (t:=.one 4) (body:=QN Dq) (src:=.lst l) (C:=Qb ns (n - 1)) (ns:=ns) (K:=A.length) (items:=fun k=>(QQ A).getD k .unb)
  (fun k ρ h'=>h'=h∧(∃x,ρ=[.loc 32,.loc g.lo,Ql nm vs,.loc l,x])∧(A.take k).any (BB vs g)=false)
  (fun v h'=>h'=h∧v=.bool true∧hid A vs g=true)
  (by
   clear emg' ht T;rintro k ρ h' ⟨rfl,_⟩
   rw[YJ hl]
   split
   ·rename_i c
    rewrite [List.getElem?_eq_getElem (by rw[len];exact c),List.getD_eq_getElem?_getD,List.getElem?_eq_getElem (by rw[len];exact c)]
    rfl
   ·rename_i c
    rw[List.getElem?_eq_none (by rw[len];exact o34 len c)])
  (by
   clear hl;intro k ρ h' lt hI;obtain⟨rfl,⟨x,rfl⟩,st⟩:=hI
   have eo:=List.getElem?_eq_getElem lt
   generalize A[k]=o at eo
   have mo:o∈A:=List.mem_of_getElem? eo
   have it:(QQ A).getD k .unb=.loc o.lo:=by
    rw[List.getD_eq_getElem?_getD]
    unfold QQ
    rw[List.getElem?_map,eo]
    rfl
   simp only[it]
   refine⟨[.loc 32,.loc g.lo,Ql nm vs,.loc l,.loc o.lo],rfl,?_⟩
   refine q0 ?_;intro Q;obtain⟨io,eio,emo⟩:=T.mem (sub o mo).1
   unfold YC at emo
   rw[(sub o mo).2.1]at emo
   obtain⟨_,ow,od,_⟩:=T.wf o (sub o mo).1
   have ek:eqV h' EQ (.int (io:Int)) (.int (ig:Int))=some (Nat.beq io ig):=Ni
   have hk:=Y1 eo
   have nxt:BB vs g o=false→(A.take (k+1)).any (BB vs g)=false:=fun q=>by simp only[hk,List.any_append,st];simp[q]
   clear hk;have yes:BB vs g o=true→hid A vs g=true:=fun q=>List.any_eq_true.mpr ⟨o,mo,q⟩
   by_cases q:io=ig
   ·subst q
    rw[Nat.beq_refl]at ek
    rw[eio]at eg
    clear eio;cases (eg)
    refine⟨.nxt,[.loc 32,.loc g.lo,Ql nm vs,.loc l,.loc g.lo],h',?_,Or.inr ⟨Or.inl rfl,rfl,⟨_,rfl⟩,nxt (by unfold BB;rw[Q7.mpr rfl];rfl)⟩⟩
    unfold Dq
    walk_at "ss"
   ·rw[Yo q]at ek
    have ne:o.ws≠g.ws:=T.dist eio eg q ((sub o mo).2.1.trans (sub g mg).2.1.symm) (sub o mo).2.2 (sub g mg).2.2
    have nq:eqW o.ws g.ws=false:=by
     cases r:eqW o.ws g.ws with
     |false=>rfl
     |true=>exact absurd (Q7.mp r) ne
    have s1:=UH (ns:=ns) (n:=n - 1) (m:=nm) (by omega) T.k hv ow dv od
    have s2:=G3 (ns:=ns) (n:=n - 1) (m:=nm) (by omega) T.k ow gw od gd ne
    cases r1:leW vs o.ws with
    |false=>
     rw[r1]at s1
     refine⟨.nxt,[.loc 32,.loc g.lo,Ql nm vs,.loc l,.loc o.lo],h',?_,Or.inr ⟨Or.inl rfl,rfl,⟨_,rfl⟩,nxt (by unfold BB;rw[r1];simp)⟩⟩
     unfold Dq
     walk_at "ss"
    |true=>
     rw[r1]at s1
     cases r2:leW o.ws g.ws with
     |false=>
      rw[r2]at s2
      refine⟨.nxt,[.loc 32,.loc g.lo,Ql nm vs,.loc l,.loc o.lo],h',?_,Or.inr ⟨Or.inl rfl,rfl,⟨_,rfl⟩,nxt (by unfold BB;rw[r2];simp)⟩⟩
      unfold Dq
      walk_at "ss"
     |true=>
      rw[r2]at s2
      refine⟨.ret (.bool true),[.loc 32,.loc g.lo,Ql nm vs,.loc l,.loc o.lo],h',?_,Or.inl ⟨_,rfl,rfl,rfl,yes (by unfold BB;rw[r1,r2,nq];rfl)⟩⟩
      unfold Dq
      walk_at "ss")
  A.length 0 64 [.loc 32,.loc g.lo,Ql nm vs,.loc l,.unb] h (by exact o30) (by exact o47 len al) ⟨rfl,⟨_,rfl⟩,rfl⟩
 clear emg' ht T;obtain⟨fl,ρ',h',e,r⟩:=H
 rcases r with ⟨v,rfl,rfl,rfl,y⟩|⟨rfl,rfl,⟨x,rfl⟩,st⟩
 ·dsimp only[Q];rw[y]
  apply L_v
  ·omega
  ·rfl
  ·apply Qd C3
   ·apply Qt
    ·apply YG
     ·walk_at "i"
     ·exact e
    ·exact BW
   ·exact rfl
  ·walk_at "ext"
  ·exact rfl
 ·simp only[List.take_length]at st
  dsimp only[Q];rw[show hid A vs g=false from st]
  apply L_v
  ·omega
  ·rfl
  ·apply Qd C3
   ·apply Qt
    ·apply YG
     ·walk_at "i"
     ·exact e
    ·apply Q2
     walk_at "ss"
   ·exact rfl
  ·walk_at "ext"
  ·exact rfl
end
end
section
def Z3 (w:Nat):Bool:=Nat.beq w 10||Nat.beq w 11
section
variable {ns:List Int} {n f:Nat} {h h':H} {gs:List Gm} {W w i nm l m:Nat} {g:Gm} {vs:List Nat} {ps args:List PV} {A:List Gm}
theorem Qau (hn:1≤n)(K:KI h){w:Nat}(hw:Wd w):Qb ns n 48 [.loc 1,Ql m [w]] h=some (.bool (Z3 w),h):=by
 refine q1 w ?_;intro Q;rcases hw with rfl|rfl|rfl|rfl
 ·exact Fu hn rfl K (fun a b=>by kernel_rfl) rfl rfl rfl
 ·exact Fu hn rfl K (fun a b=>by kernel_rfl) rfl rfl rfl
 ·exact Fu hn rfl K (fun a b=>by kernel_rfl) rfl rfl rfl
 ·exact Fu hn rfl K (fun a b=>by kernel_rfl) rfl rfl rfl
theorem Qbb (hn:1≤n)(K:KI h){w v:Nat}(hw:Wd w)(hv:Wd v):Qb ns n 48 [.loc 1,Ql m [w,v]] h=some (.bool (Z3 w&&Z3 v),h):=by
 refine q2 w v ?_;intro Q;rcases hw with rfl|rfl|rfl|rfl<;>rcases hv with rfl|rfl|rfl|rfl<;>exact Fu hn rfl K (fun a b=>by kernel_rfl) rfl rfl rfl
theorem QbM (hn:1≤n)(K:KI h)(hv:L12 vs)(dv:Wds vs):Qb ns n 48 [.loc 1,Ql m vs] h=some (.bool (vs.all Z3),h):=by
 refine q1 vs ?_;intro Q;rcases hv with ⟨v,rfl⟩|⟨v,v',rfl⟩
 ·dsimp only[Q];rw[show[v].all Z3=Z3 v by simp]
  exact Qau hn K (dv _ (by simp))
 ·dsimp only[Q];rw[show[v,v'].all Z3=(Z3 v&&Z3 v') by simp]
  exact Qbb hn K (dv _ (by simp)) (dv _ (by simp))
def mayL (vs:List Nat)(A:List Gm):List Gm:=A.filter fun g=>!hid A vs g
theorem Ag (hn:15≤n)(T:TS h gs W)(hm:Nm nm)(hv:L12 vs)(dv:Wds vs):Qb ns n 66 [.loc 32,.sym nm,Ql nm vs,.int (w:Int)] h=some (.loc h.length,h++[.lst (QQ (mayL vs (metL vs (QL nm w gs))))]):=by
 have al:=F6 (ns:=ns) (n:=n - 1) (w:=w) (by omega) T hm hv dv
 have sub:∀g∈metL vs (QL nm w gs),g∈gs∧g.nm=nm∧liveB w g=true:=fun g hg=>Jq (List.mem_filter.mp hg).1
 have ll:(metL vs (QL nm w gs)).length≤50:=Nat.le_trans (List.length_filter_le _ _) (Nat.le_trans (List.length_filter_le _ _) T.len)
 generalize metL vs (QL nm w gs)=A at*
 have ht:=T.t
 have X:=YO (C:=Qb ns (n - 1)) (ns:=ns) (t:=.one 5) (ifl:=[ZO (tE (Qx (Qa 0) 56 [(Qa 5),(Qa 2),(Qa 4)]))]) (e:=Qa 5) (it:=QO (Qa 4)) (src:=.lst h.length) (ρ:=[.loc 32,.sym nm,Ql nm vs,.int (w:Int),.loc h.length,.unb]) (h:=h++[.lst (QQ A)]) (h1:=h++[.lst (QQ A)]) (ps:=A) (fun g=>.loc g.lo) (fun g=>!hid A vs g) (fun g=>.loc g.lo)
  (by walk_at "i") rfl (by omega)
  (by intro i h' E;rw[YJ (E.get Qe)];unfold QQ;rw[List.getElem?_map])
  (by
   intro g hg
   refine⟨[.loc 32,.sym nm,Ql nm vs,.int (w:Int),.loc h.length,.loc g.lo],rfl,?_,?_⟩
   ·intro h' E
    have T':=T.ext (Ext.trans (.snoc .refl) E)
    have ht':=T'.t
    have hl':h'[h.length]?=some (.lst (QQ A)):=E.get Qe
    have c:=Qaa (ns:=ns) (n:=n - 1) (by omega) T' hv dv sub ll hl' hg
    refine⟨h',?_,.refl⟩
    refine Ys (x:=!hid A vs g) (h₁:=h') ?_ ?_
    ·walk_at "t"
    ·cases hid A vs g<;>exact rfl
   ·intro _ h' E
    refine⟨h',?_,.refl⟩
    walk_at "e")
 obtain⟨h',e,E⟩:=X
 have el:h'[(h++[AO.lst (QQ A)]).length]?=some (.lst (QQ (mayL vs A))):=E.get Qe
 refine L_n (by omega) rfl ?_ (Ext.trans (.snoc (.snoc .refl)) E) (by simp) el ?_
 ·apply Qd Qbx
  ·apply Qt
   ·walk_at "s"
   apply Q2
   apply Qt
   ·apply NB e
   ·exact BW
  ·exact rfl
 ·show Yc h.length (QQ (mayL vs A))=true
  exact Wr T _ fun g hg=>(sub g (List.mem_filter.mp hg).1).1
end
end
section
def Jd (F:List Gm)(g:Gm):Bool:=F.all fun o=>eqW o.ws g.ws||leW g.ws o.ws
def aL (F:List Gm):List Gm:=match F.find? (Jd F)with
 |some g=>[g]
 |none=>F
def DP (F:List Gm):Nat:=bif Nat.beq F.length 0 then 22 else bif Nat.beq F.length 1 then 19 else 20
def Y8 (vs:List Nat)(L:List Gm):List Gm:=cond (vs.all Z3) (aL (fitL vs L)) (mayL vs (metL vs L))
def Yh (F:List Gm):List PV:=F.map fun g=>.int (g.num:Int)
def Ha (vs:List Nat)(L:List Gm):PV:=.tup [.sym (cond (vs.all Z3) (DP (Y8 vs L)) 21),.tup (Yh (Y8 vs L))]
theorem H2 {F:List Gm}{i j:Nat}{a b:Gm}(nd:(F.map (·.ws)).Nodup)(ea:F[i]?=some a)(eb:F[j]?=some b)(e:a.ws=b.ws):i=j:=by
 refine(List.getElem?_inj ?_ nd).mp ?_
 ·rw[List.length_map];exact(List.getElem?_eq_some_iff.mp ea).1
 ·simp only[List.getElem?_map,List.getElem?_map,ea,eb]
  exact congrArg some e
theorem Fo {F:List Gm}{i:Nat}{g:Gm}(O:OkW (F.map (·.ws)))(eg:F[i]?=some g)(a:ahd (F.map (·.ws)) i):F.find? (Jd F)=some g:=by
 obtain⟨_,nd,ok⟩:=O
 have okF:∀o∈F,Wds o.ws:=fun o ho=>(ok _ (List.mem_map_of_mem ho)).2
 have mg:g∈F:=List.mem_of_getElem? eg
 have bg:Jd F g=true:=by
  refine List.all_eq_true.mpr fun o ho=>?_
  obtain⟨j,ej⟩:=List.mem_iff_getElem?.mp ho
  by_cases q:j=i
  ·subst q
   rw[eg]at ej
   cases ej
   rw[Q7.mpr rfl]
   rfl
  ·rw[a j g.ws o.ws q (by rw[List.getElem?_map,eg];rfl) (by rw[List.getElem?_map,ej];rfl),Bool.or_true]
 cases e:F.find? (Jd F)with
 |none=>exact absurd bg (List.find?_eq_none.mp e g mg)
 |some g'=>
  have b':=List.find?_some e
  have m':=List.mem_of_find?_eq_some e
  have c1:=List.all_eq_true.mp bg g' m'
  have c2:=List.all_eq_true.mp b' g mg
  simp only[Bool.or_eq_true]at c1 c2
  have:g.ws=g'.ws:=by
   rcases c1 with c1|c1
   ·exact(Q7.mp c1).symm
   ·rcases c2 with c2|c2
    ·exact Q7.mp c2
    ·exact Ws (okF g mg) (okF g' m') c1 c2
  obtain⟨j,ej⟩:=List.mem_iff_getElem?.mp m'
  have:=H2 nd eg ej this
  subst this
  rw[eg]at ej
  rw[ej]
theorem PC {F:List Gm}(O:OkW (F.map (·.ws)))(a:∀i,i<F.length→¬ahd (F.map (·.ws)) i):F.find? (Jd F)=none:=by
 obtain⟨_,nd,ok⟩:=O
 cases e:F.find? (Jd F)with
 |none=>rfl
 |some g=>
  have b:=List.find?_some e
  obtain⟨i,eg⟩:=List.mem_iff_getElem?.mp (List.mem_of_find?_eq_some e)
  exfalso
  refine a i (List.getElem?_eq_some_iff.mp eg).1 fun j wi wj ne ei ej=>?_
  rw[List.getElem?_map,eg]at ei
  cases ei
  rw[List.getElem?_map]at ej
  cases eo:F[j]? with
  |none=>rw[eo]at ej;cases ej
  |some o=>
   rw[eo]at ej
   cases ej
   have c:=List.all_eq_true.mp b o (List.mem_of_getElem? eo)
   simp only[Bool.or_eq_true]at c
   rcases c with c|c
   ·exact absurd (H2 nd eo eg (Q7.mp c)) ne
   ·exact c
theorem Zq {N:Nat}:∀F:List Gm,Yc N (Yh F)=true
 |[]=>rfl
 |x::xs=>by
  show(Yp N (.int _)&&Yc N (Yh xs))=true
  rw[Zq xs]
  rfl
theorem Pu {N t:Nat}{F:List Gm}:Yp N (.tup [.sym t,.tup (Yh F)])=true:=by
 show(Yp N (.sym t)&&(Yc N (Yh F)&&true))=true
 rw[Zq F]
 rfl
section
variable {ns:List Int} {n f:Nat} {h h':H} {gs:List Gm} {W w i nm l m:Nat} {g:Gm} {vs:List Nat} {ps args:List PV} {A F:List Gm}
theorem KF {C:CT}{ρ:Lc}{src:Src}{it:IX}{slot:Nat}(T:TS h gs W)(sub:∀g∈F,g∈gs)(fl:F.length≤50){h0 h1:H}(E0:Ext h h1)
  (ei:it C ns ρ h0=some (src,h1)) (hs:∀h',Ext h1 h'→∀i,YQ h' i src=some (QQ F)[i]?) (hx:∀p q,Ya (QW (QW ρ slot q) slot (.loc p)) slot=.loc p):
  ∃h',QJ it (.one slot) [] (Qk (Qa slot) 41) C ns ρ h0=some (.loc h1.length,h')∧Ext (h1++[.lst (Yh F)]) h':=by
 have X:=YO (C:=C) (ns:=ns) (t:=.one slot) (ifl:=[]) (e:=Qk (Qa slot) 41) (it:=it) (src:=src) (ρ:=ρ) (h:=h0) (h1:=h1) (ps:=F) (fun g=>.loc g.lo) (fun g=>true) (fun g=>.int (g.num:Int))
  ei rfl (by omega)
  (by intro i h' E;rw[hs h' E];unfold QQ;rw[List.getElem?_map])
  (by
   intro g hg
   refine⟨_,rfl,fun h' E=>⟨h',rfl,.refl⟩,fun Z h' E=>⟨h',?_,.refl⟩⟩
   obtain⟨i,ei,em⟩:=(T.ext (E0.trans E)).mem (sub g hg)
   rw[T.nu i g ei]
   unfold YC at em
   refine Hf (YM (hx _ _) rfl) em rfl rfl)
 obtain⟨h',e,E⟩:=X
 refine⟨h',e,?_⟩
 rw[List.filter_eq_self.mpr (fun Z Z=>rfl)]at E
 exact E
theorem Xp (hn:17≤n)(T:TS h gs W)(hm:Nm nm)(hv:L12 vs)(dv:Wds vs):Qb ns n 67 [.loc 32,.sym nm,Ql nm vs,.int (w:Int)] h=some (Ha vs (QL nm w gs),h):=by
 have ht:=T.t
 have k1:=T.k.k1
 have ic:=QbM (ns:=ns) (n:=n - 1) (m:=nm) (by omega) T.k hv dv
 delta Ha Y8
 cases q:vs.all Z3 with
 |false=>
  rw[q]at ic
  simp only[cond_false]
  have c:=Ag (ns:=ns) (n:=n - 1) (w:=w) (by omega) T hm hv dv
  have sub:∀g∈mayL vs (metL vs (QL nm w gs)),g∈gs:=fun g hg=>(Jq (List.mem_filter.mp (List.mem_filter.mp hg).1).1).1
  have ll:(mayL vs (metL vs (QL nm w gs))).length≤50:=Nat.le_trans (List.length_filter_le _ _) (Nat.le_trans (List.length_filter_le _ _) (Nat.le_trans (List.length_filter_le _ _) T.len))
  generalize mayL vs (metL vs (QL nm w gs))=A at*
  obtain⟨h',e,E⟩:=KF (C:=Qb ns (n - 1)) (ns:=ns) (ρ:=[.loc 32,.sym nm,Ql nm vs,.int (w:Int),.unb,.unb,.unb]) (h0:=h) (slot:=5) (src:=.lst h.length) (it:=QO (Qx (Qa 0) 57 [(Qa 1),(Qa 2),(Qa 3)])) T sub ll (.snoc .refl:Ext h (h++[.lst (QQ A)])) (by walk_at "i") (by intro h' E i;exact YJ (E.get Qe)) (by intro p q;rfl)
  have el:=E.get Qe
  have sh:QG (Yh A)=true:=Yu (by unfold Yh;rw[List.length_map];omega)
  apply L_v (h':=h')
  ·omega
  ·rfl
  ·apply Qd RF
   ·walk_at "body"
   ·exact rfl
  ·exact Ext.trans (.snoc (.snoc .refl)) E
  ·exact Pu
 |true=>
  rw[q]at ic
  simp only[cond_true]
  obtain⟨p,h1,c,E1,L⟩:=EL (ns:=ns) (n:=n - 1) (w:=w) (by omega) T hm hv dv
  have sb:List.Sublist (fitL vs (QL nm w gs)) (QL nm w gs):=List.filter_sublist
  have O:=T.okW sb
  clear sb;have sub:∀g∈fitL vs (QL nm w gs),g∈gs:=fun g hg=>(Jq (List.mem_filter.mp hg).1).1
  have ll:(fitL vs (QL nm w gs)).length≤50:=Nat.le_trans (List.length_filter_le _ _) (Nat.le_trans (List.length_filter_le _ _) T.len)
  generalize fitL vs (QL nm w gs)=F at*
  cases L with
  |none e=>
   clear ll sub O;subst e
   apply L_v (h':=h1)
   ·omega
   ·rfl
   ·apply Qd RF
    ·walk_at "body"
    ·exact rfl
   ·exact E1
   ·exact rfl
  |@one i g d eg a=>
   have fb:=Fo O eg a
   have mg:g∈F:=List.mem_of_getElem? eg
   obtain⟨j,ej,em⟩:=(T.ext E1).mem (sub g mg)
   rw[←T.nu j g ej]at em
   unfold YC at em
   rw[show aL F=[g] by unfold aL;rw[fb]]
   apply L_v (h':=h1)
   ·omega
   ·rfl
   ·apply Qd RF
    ·walk_at "body"
    ·exact rfl
   ·exact E1
   ·exact rfl
  |@many l f2 a el0=>
   have fb:=PC O a
   clear a O;rw[show aL F=F by unfold aL;rw[fb]]
   clear fb;obtain⟨h',e,E⟩:=KF (C:=Qb ns (n - 1)) (ns:=ns) (ρ:=[.loc 32,.sym nm,Ql nm vs,.int (w:Int),.tup [.sym 20,.loc l],.unb,.unb]) (h0:=h1) (slot:=6) (src:=.lst l) (it:=QO (Qi (Qa 4) (Qj 1))) T sub ll E1 (by walk_at "i") (by intro h' E i;exact YJ (E.get el0)) (by intro p q;rfl)
   clear el0 sub;have el:=E.get Qe
   have sh:QG (Yh F)=true:=Yu (by unfold Yh;rw[List.length_map];omega)
   clear ll;rw[show DP F=20 by
    clear sh el E;unfold DP
    rw[Yo (fun q=>by rw[q]at f2;exact absurd f2 (by decide)),Yo (fun q=>by rw[q]at f2;exact absurd f2 (by decide))]
    rfl]
   apply L_v (h':=h')
   ·omega
   ·rfl
   ·apply Qd RF
    ·walk_at "body"
    ·exact rfl
   ·exact E1.trans (Ext.trans (.snoc .refl) E)
   ·exact Pu
end
end
section
section
variable {C:CT} {ns:List Int} {ρ:Lc} {h h₁ h₂:H} {a b:EX} {w v:Nat}
theorem Vj (hw:Wd w)(hv:Wd v):ZF (.sym w) (.sym v) h=some (.bool (!Yb v w),h):=by
 refine q2 w v ?_;intro Q;rcases hw with rfl|rfl|rfl|rfl<;>rcases hv with rfl|rfl|rfl|rfl<;>rfl
theorem EZ {x:Bool}(e1:a C ns ρ h=some (.sym w,h₁))(e2:b C ns ρ h₁=some (.sym v,h₂))(hw:Wd w)(hv:Wd v)(k:Yb v w=x):Y5 a b C ns ρ h=some (.bool (!x),h₂):=Y2 (f:=ZF) e1 e2 (k▸Vj hw hv)
end
def QU (ws:List Nat):List PV:=ws.map .sym
section
variable {ns:List Int} {n:Nat} {h:H} {a b:Nat} {ws vs:List Nat} {w v w' v':Nat}
theorem Vl (hn:1≤n)(h1:h[a]?=some (.lst [.sym w]))(h2:h[b]?=some (.lst [.sym v]))(hw:Wd w)(hv:Wd v):Qb ns n 72 [.loc a,.loc b] h=some (.bool (leW [v] [w]),h):=by
 cases q:Yb v w
 ·apply L_v
  ·omega
  ·rfl
  ·apply Qd Du
   ·walk_at "body"
   ·simp[leW,mtW,Y3, *]
  ·walk_at "ext"
  ·exact rfl
 ·apply L_v
  ·omega
  ·rfl
  ·apply Qd Du
   ·walk_at "body"
   ·simp[leW,mtW,Y3, *]
  ·walk_at "ext"
  ·exact rfl
theorem VE (hn:1≤n)(h1:h[a]?=some (.lst [.sym w,.sym w']))(h2:h[b]?=some (.lst [.sym v,.sym v']))(hw:Wd w)(hv:Wd v)(hw':Wd w')(hv':Wd v'):Qb ns n 72 [.loc a,.loc b] h=some (.bool (leW [v,v'] [w,w']),h):=by
 cases q:Yb v w<;>cases q':Yb v' w'
 ·apply L_v
  ·omega
  ·rfl
  ·apply Qd Du
   ·walk_at "body"
   ·simp[leW,mtW,Y3, *]
  ·walk_at "ext"
  ·exact rfl
 ·apply L_v
  ·omega
  ·rfl
  ·apply Qd Du
   ·walk_at "body"
   ·simp[leW,mtW,Y3, *]
  ·walk_at "ext"
  ·exact rfl
 ·apply L_v
  ·omega
  ·rfl
  ·apply Qd Du
   ·walk_at "body"
   ·simp[leW,mtW,Y3, *]
  ·walk_at "ext"
  ·exact rfl
 ·apply L_v
  ·omega
  ·rfl
  ·apply Qd Du
   ·walk_at "body"
   ·simp[leW,mtW,Y3, *]
  ·walk_at "ext"
  ·exact rfl
theorem Cf (hn:1≤n)(h1:h[a]?=some (.lst [.sym w]))(h2:h[b]?=some (.lst [.sym v,.sym v'])):Qb ns n 72 [.loc a,.loc b] h=some (.bool (leW [v,v'] [w]),h):=by
 ·apply L_v
  ·omega
  ·rfl
  ·apply Qd Du
   ·walk_at "body"
   ·simp[leW,mtW,Y3, *]
  ·walk_at "ext"
  ·exact rfl
theorem Vr (hn:1≤n)(h1:h[a]?=some (.lst [.sym w,.sym w']))(h2:h[b]?=some (.lst [.sym v])):Qb ns n 72 [.loc a,.loc b] h=some (.bool (leW [v] [w,w']),h):=by
 ·apply L_v
  ·omega
  ·rfl
  ·apply Qd Du
   ·walk_at "body"
   ·simp[leW,mtW,Y3, *]
  ·walk_at "ext"
  ·exact rfl
theorem ET (hn:1≤n)(h1:h[a]?=some (.lst [.sym w]))(h2:h[b]?=some (.lst [.sym v]))(hw:Wd w)(hv:Wd v):Qb ns n 73 [.loc a,.loc b] h=some (.bool (mtW [w] [v]),h):=by
 cases q:Yb v w<;>cases r:Yb w v
 ·apply L_v
  ·omega
  ·rfl
  ·apply Qd JX
   ·walk_at "body"
   ·simp[leW,mtW,Y3, *]
  ·walk_at "ext"
  ·exact rfl
 ·apply L_v
  ·omega
  ·rfl
  ·apply Qd JX
   ·walk_at "body"
   ·simp[leW,mtW,Y3, *]
  ·walk_at "ext"
  ·exact rfl
 ·apply L_v
  ·omega
  ·rfl
  ·apply Qd JX
   ·walk_at "body"
   ·simp[leW,mtW,Y3, *]
  ·walk_at "ext"
  ·exact rfl
 ·apply L_v
  ·omega
  ·rfl
  ·apply Qd JX
   ·walk_at "body"
   ·simp[leW,mtW,Y3, *]
  ·walk_at "ext"
  ·exact rfl
theorem Vi (hn:1≤n)(h1:h[a]?=some (.lst [.sym w]))(h2:h[b]?=some (.lst [.sym v,.sym v'])):Qb ns n 73 [.loc a,.loc b] h=some (.bool (mtW [w] [v,v']),h):=by
 ·apply L_v
  ·omega
  ·rfl
  ·apply Qd JX
   ·walk_at "body"
   ·simp[leW,mtW,Y3, *]
  ·walk_at "ext"
  ·exact rfl
theorem EE (hn:1≤n)(h1:h[a]?=some (.lst [.sym w,.sym w']))(h2:h[b]?=some (.lst [.sym v])):Qb ns n 73 [.loc a,.loc b] h=some (.bool (mtW [w,w'] [v]),h):=by
 ·apply L_v
  ·omega
  ·rfl
  ·apply Qd JX
   ·walk_at "body"
   ·simp[leW,mtW,Y3, *]
  ·walk_at "ext"
  ·exact rfl
theorem Cd (hn:1≤n)(h1:h[a]?=some (.lst [.sym w,.sym w']))(h2:h[b]?=some (.lst [.sym v,.sym v']))(hw:Wd w)(hv:Wd v)(hw':Wd w')(hv':Wd v'):Qb ns n 73 [.loc a,.loc b] h=some (.bool (mtW [w,w'] [v,v']),h):=by
 cases q:Yb v w<;>cases q':Yb v' w'<;>cases r:Yb w v<;>cases r':Yb w' v'
 ·apply L_v
  ·omega
  ·rfl
  ·apply Qd JX
   ·walk_at "body"
   ·simp[leW,mtW,Y3, *]
  ·walk_at "ext"
  ·exact rfl
 ·apply L_v
  ·omega
  ·rfl
  ·apply Qd JX
   ·walk_at "body"
   ·simp[leW,mtW,Y3, *]
  ·walk_at "ext"
  ·exact rfl
 ·apply L_v
  ·omega
  ·rfl
  ·apply Qd JX
   ·walk_at "body"
   ·simp[leW,mtW,Y3, *]
  ·walk_at "ext"
  ·exact rfl
 ·apply L_v
  ·omega
  ·rfl
  ·apply Qd JX
   ·walk_at "body"
   ·simp[leW,mtW,Y3, *]
  ·walk_at "ext"
  ·exact rfl
 ·apply L_v
  ·omega
  ·rfl
  ·apply Qd JX
   ·walk_at "body"
   ·simp[leW,mtW,Y3, *]
  ·walk_at "ext"
  ·exact rfl
 ·apply L_v
  ·omega
  ·rfl
  ·apply Qd JX
   ·walk_at "body"
   ·simp[leW,mtW,Y3, *]
  ·walk_at "ext"
  ·exact rfl
 ·apply L_v
  ·omega
  ·rfl
  ·apply Qd JX
   ·walk_at "body"
   ·simp[leW,mtW,Y3, *]
  ·walk_at "ext"
  ·exact rfl
 ·apply L_v
  ·omega
  ·rfl
  ·apply Qd JX
   ·walk_at "body"
   ·simp[leW,mtW,Y3, *]
  ·walk_at "ext"
  ·exact rfl
 ·apply L_v
  ·omega
  ·rfl
  ·apply Qd JX
   ·walk_at "body"
   ·simp[leW,mtW,Y3, *]
  ·walk_at "ext"
  ·exact rfl
 ·apply L_v
  ·omega
  ·rfl
  ·apply Qd JX
   ·walk_at "body"
   ·simp[leW,mtW,Y3, *]
  ·walk_at "ext"
  ·exact rfl
 ·apply L_v
  ·omega
  ·rfl
  ·apply Qd JX
   ·walk_at "body"
   ·simp[leW,mtW,Y3, *]
  ·walk_at "ext"
  ·exact rfl
 ·apply L_v
  ·omega
  ·rfl
  ·apply Qd JX
   ·walk_at "body"
   ·simp[leW,mtW,Y3, *]
  ·walk_at "ext"
  ·exact rfl
 ·apply L_v
  ·omega
  ·rfl
  ·apply Qd JX
   ·walk_at "body"
   ·simp[leW,mtW,Y3, *]
  ·walk_at "ext"
  ·exact rfl
 ·apply L_v
  ·omega
  ·rfl
  ·apply Qd JX
   ·walk_at "body"
   ·simp[leW,mtW,Y3, *]
  ·walk_at "ext"
  ·exact rfl
 ·apply L_v
  ·omega
  ·rfl
  ·apply Qd JX
   ·walk_at "body"
   ·simp[leW,mtW,Y3, *]
  ·walk_at "ext"
  ·exact rfl
 ·apply L_v
  ·omega
  ·rfl
  ·apply Qd JX
   ·walk_at "body"
   ·simp[leW,mtW,Y3, *]
  ·walk_at "ext"
  ·exact rfl
theorem Fg (hn:1≤n)(h1:h[a]?=some (.lst (QU ws)))(h2:h[b]?=some (.lst (QU vs)))(hw:L12 ws)(hv:L12 vs)(dw:Wds ws)(dv:Wds vs):Qb ns n 72 [.loc a,.loc b] h=some (.bool (leW vs ws),h):=by
 refine q2 ws vs ?_;intro Q;rcases hw with ⟨w,rfl⟩|⟨w,w',rfl⟩<;>rcases hv with ⟨v,rfl⟩|⟨v,v',rfl⟩
 ·exact Vl hn h1 h2 (dw _ (by simp)) (dv _ (by simp))
 ·exact Cf hn h1 h2
 ·exact Vr hn h1 h2
 ·exact VE hn h1 h2 (dw _ (by simp)) (dv _ (by simp)) (dw _ (by simp)) (dv _ (by simp))
theorem AB (hn:1≤n)(h1:h[a]?=some (.lst (QU ws)))(h2:h[b]?=some (.lst (QU vs)))(hw:L12 ws)(hv:L12 vs)(dw:Wds ws)(dv:Wds vs):Qb ns n 73 [.loc a,.loc b] h=some (.bool (mtW ws vs),h):=by
 refine q2 ws vs ?_;intro Q;rcases hw with ⟨w,rfl⟩|⟨w,w',rfl⟩<;>rcases hv with ⟨v,rfl⟩|⟨v,v',rfl⟩
 ·exact ET hn h1 h2 (dw _ (by simp)) (dv _ (by simp))
 ·exact Vi hn h1 h2
 ·exact EE hn h1 h2
 ·exact Cd hn h1 h2 (dw _ (by simp)) (dv _ (by simp)) (dw _ (by simp)) (dv _ (by simp))
end
end
section
def YA (g:Gm):PV:=match g.to with
 |none=>.tup [.sym g.nm,.loc g.wl]
 |some _=>.none
structure MS (h:H) (gs:List Gm):Prop where
 l:h[35]?=some (.lst (gs.map YA))
 w:∀g∈gs,g.to=none→h[g.wl]?=some (.lst (QU g.ws))
 nu:∀(i:Nat) (g:Gm),gs[i]?=some g→g.num=i
 len:gs.length≤50
 wf:∀g∈gs,Nm g.nm∧L12 g.ws∧Wds g.ws
theorem MS.ext {h h':H}{gs:List Gm}(M:MS h gs)(E:Ext h h'):MS h' gs:=⟨E.get M.l,fun g a b=>E.get (M.w g a b),M.nu,M.len,M.wf⟩
def Do (nm:Nat)(g:Gm):Bool:=g.to.isNone&&Nat.beq g.nm nm
def WH (nm:Nat)(gs:List Gm):List Gm:=gs.filter (Do nm)
section
variable {ns:List Int} {n:Nat} {h h':H} {gs:List Gm} {nm:Nat} {g:Gm} {r:PV} {vs:List Nat}
theorem MS.item (M:MS h gs)(hg:g∈gs):Yw (gs.map YA) (g.num:Int)=some (YA g):=by
 obtain⟨i,e⟩:=List.mem_iff_getElem?.mp hg
 have hi:=(List.getElem?_eq_some_iff.mp e).1
 have:=M.len
 refine YI (by rw[M.nu i g e];exact o84 hi this) ?_
 simp only[M.nu i g e,List.getElem?_map,e]
 rfl
theorem la1 {C:CT}(M:MS h gs):∃h',QJ (QM (Yl (Qa 0))) (.one 8) [(Yk [(tE (ZC (Qi (Qa 0) (Qa 8)) QT)),(tE (eEq (Qi (Qi (Qa 0) (Qa 8)) (Qj 0)) (Qa 1)))])] (Qa 8) C ns [.loc 35,.sym nm,r,.unb,.unb,.unb,.unb,.unb,.unb,.unb,.unb,.unb,.unb,.unb] h=some (.loc h.length,h')∧Ext (h++[.lst (Yh (WH nm gs))]) h':=by
 have len:(gs.map YA).length=gs.length:=List.length_map _
 have ml:=M.len
 have hl:=M.l
 have sh:QG (gs.map YA)=true:=Yu (by omega)
 have rg:ZH 0 (((gs.map YA).length:Nat):Int) h=some (.rng 0 gs.length,h):=by rw[len];exact J7 (by omega)
 refine YO (C:=C) (ns:=ns) (ps:=gs) (src:=.rng 0 gs.length) (h1:=h) (fun g=>.int (g.num:Int)) (Do nm) (fun g=>.int (g.num:Int)) ?_ rfl (by omega) ?_ ?_
 ·(with_reducible apply ZG)
  ·walk_at "e"
  ·assumption
 ·intro i h' E
  rw[Je]
  cases e:gs[i]? with
  |none=>
   rw[if_neg (by have:=List.getElem?_eq_none_iff.mp e;exact o216 this)]
   rfl
  |some g=>
   rw[if_pos (List.getElem?_eq_some_iff.mp e).1]
   show _=some (some (PV.int (g.num:Int)))
   rw[M.nu i g e]
 ·intro g hg
  refine⟨[.loc 35,.sym nm,r,.unb,.unb,.unb,.unb,.unb,.int (g.num:Int),.unb,.unb,.unb,.unb,.unb],rfl,?_,?_⟩
  ·intro h' E
   refine q0 ?_;intro Q;have hl':=E.get hl
   have it:=M.item hg
   unfold YA at it
   cases q:g.to with
   |none=>
    rw[q]at it
    dsimp only at it
    have eq:eqV h' EQ (.sym g.nm) (.sym nm)=some (Nat.beq g.nm nm):=rfl
    refine⟨h',?_,.refl⟩
    rw[show Do nm g=Nat.beq g.nm nm by unfold Do;rw[q];rfl]
    refine Ys (x:=Nat.beq g.nm nm) (h₁:=h') ?_ ?_
    ·refine Ys (x:=true) (h₁:=h') ?_ ?_
     ·walk_at "t"
     ·refine Ys (x:=Nat.beq g.nm nm) (h₁:=h') ?_ ?_
      ·walk_at "t"
      ·cases Nat.beq g.nm nm<;>exact rfl
    ·cases Nat.beq g.nm nm<;>exact rfl
   |some t=>
    rw[q]at it
    dsimp only at it
    refine⟨h',?_,.refl⟩
    rw[show Do nm g=false by unfold Do;rw[q];rfl]
    refine Ys (x:=false) (h₁:=h') ?_ rfl
    refine Ys (x:=false) (h₁:=h') ?_ rfl
    walk_at "t"
  ·intro _ h' E
   refine⟨h',?_,.refl⟩
   walk_at "e"
end
end
section
section
variable {ns:List Int} {n:Nat} {h h':H} {gs A:List Gm} {nm:Nat} {g:Gm} {r l l3:Nat} {vs:List Nat}
theorem Ue (q:g.to=none):YA g=.tup [.sym g.nm,.loc g.wl]:=by unfold YA;rw[q]
theorem MS.itemN (M:MS h gs)(hg:g∈gs)(q:g.to=none):Yw (gs.map YA) (g.num:Int)=some (.tup [.sym g.nm,.loc g.wl]):=by rw[←Ue q];exact M.item hg
def Cur (gs A:List Gm):Prop:=A.length≤50∧∀g∈A,g∈gs∧g.to=none
theorem Cur.filter (c:Cur gs A)(p:Gm→Bool):Cur gs (A.filter p):=⟨Nat.le_trans (List.length_filter_le _ _) c.1,fun g hg=>c.2 g (List.mem_filter.mp hg).1⟩
theorem W9 {i:Nat}(e:h[l]?=some (.lst (Yh A))):YQ h i (.lst l)=some (A[i]?.map fun g=>.int (g.num:Int)):=by
 rw[YJ e];unfold Yh;rw[List.getElem?_map]
theorem la2 (hn:1≤n)(M:MS h gs)(c:Cur gs A)(hl:h[l]?=some (.lst (Yh A)))(hr:h[r]?=some (.lst (QU vs)))(hv:L12 vs)(dv:Wds vs):
  ∃h',QJ (QO (Qa 3)) (.one 9) [(tE (Qn 73 [(Qi (Qi (Qa 0) (Qa 9)) (Qj 1)),(Qa 2)]))] (Qa 9) (Qb ns n) ns [.loc 35,.sym nm,.loc r,.loc l,.unb,.unb,.unb,.unb,.unb,.unb,.unb,.unb,.unb,.unb] h=some (.loc h.length,h')∧Ext (h++[.lst (Yh (A.filter fun g=>mtW g.ws vs))]) h':=by
 have ml:=c.1
 refine YO (C:=Qb ns n) (ns:=ns) (ps:=A) (src:=.lst l) (h1:=h) (fun g=>.int (g.num:Int)) (fun g=>mtW g.ws vs) (fun g=>.int (g.num:Int)) ?_ rfl (by omega) (fun i h' E=>W9 (E.get hl)) ?_
 ·walk_at "i"
 ·intro g hg
  obtain⟨mg,tg⟩:=c.2 g hg
  refine⟨[.loc 35,.sym nm,.loc r,.loc l,.unb,.unb,.unb,.unb,.unb,.int (g.num:Int),.unb,.unb,.unb,.unb],rfl,?_,?_⟩
  ·intro h' E
   refine q0 ?_;intro Q;have M':=M.ext E
   have hl':=M'.l
   have it:=M'.itemN mg tg
   obtain⟨_,gw,gd⟩:=M.wf g mg
   have cm:=AB (ns:=ns) (n:=n) hn (M'.w g mg tg) (E.get hr) gw hv gd dv
   refine⟨h',?_,.refl⟩
   refine Ys (x:=mtW g.ws vs) (h₁:=h') ?_ ?_
   ·walk_at "t"
   ·cases mtW g.ws vs<;>exact rfl
  ·intro _ h' E
   refine⟨h',?_,.refl⟩
   walk_at "e"
end
end
section
section
variable {ns:List Int} {n:Nat} {h h':H} {gs A B:List Gm} {nm:Nat} {g:Gm} {r l l4 l6:Nat} {vs:List Nat} {x6 x7:PV}
def betB (g o:Gm):Bool:=!Nat.beq o.num g.num&&leW o.ws g.ws
theorem Qa9 (hn:1≤n)(M:MS h gs)(c:Cur gs A)(hl:h[l]?=some (.lst (Yh A)))(mg:g∈gs)(tg:g.to=none):
  ∃h',QJ (QO (Qa 3)) (.one 10) [(Yk [(tE (eNe (Qa 10) (Qa 5))),(tE (Qn 72 [(Qi (Qi (Qa 0) (Qa 5)) (Qj 1)),(Qi (Qi (Qa 0) (Qa 10)) (Qj 1))]))])] (Qa 10) (Qb ns n) ns [.loc 35,.sym nm,.loc r,.loc l,.loc l4,.int (g.num:Int),x6,.unb,.unb,.unb,.unb,.unb,.unb,.unb] h=some (.loc h.length,h')∧Ext (h++[.lst (Yh (A.filter (betB g)))]) h':=by
 have ml:=c.1
 refine YO (C:=Qb ns n) (ns:=ns) (ps:=A) (src:=.lst l) (h1:=h) (fun g=>.int (g.num:Int)) (betB g) (fun g=>.int (g.num:Int)) ?_ rfl (by omega) (fun i h' E=>W9 (E.get hl)) ?_
 ·walk_at "i"
 ·intro o ho
  obtain⟨mo,to⟩:=c.2 o ho
  refine⟨[.loc 35,.sym nm,.loc r,.loc l,.loc l4,.int (g.num:Int),x6,.unb,.unb,.unb,.int (o.num:Int),.unb,.unb,.unb],rfl,?_,?_⟩
  ·intro h' E
   refine q0 ?_;intro Q;have M':=M.ext E
   have hl':=M'.l
   have it:=M'.itemN mo to
   have it':=M'.itemN mg tg
   obtain⟨_,gw,gd⟩:=M.wf g mg
   obtain⟨_,ow,od⟩:=M.wf o mo
   have cm:=Fg (ns:=ns) (n:=n) hn (M'.w g mg tg) (M'.w o mo to) gw ow gd od
   have ek:eqV h' EQ (.int (o.num:Int)) (.int (g.num:Int))=some (Nat.beq o.num g.num):=Ni
   refine⟨h',?_,.refl⟩
   refine Ys (x:=betB g o) (h₁:=h') ?_ (by cases betB g o<;>exact rfl)
   cases q:Nat.beq o.num g.num with
   |true=>
    rw[q]at ek
    rw[show betB g o=false by unfold betB;rw[q];rfl]
    refine Ys (x:=!true) (h₁:=h') ?_ rfl
    walk_at "t"
   |false=>
    rw[q]at ek
    rw[show betB g o=leW o.ws g.ws by unfold betB;rw[q];rfl]
    refine Ys (x:=!false) (h₁:=h') ?_ ?_
    ·walk_at "t"
    ·refine Ys (x:=leW o.ws g.ws) (h₁:=h') ?_ (by cases leW o.ws g.ws<;>exact rfl)
     walk_at "t"
  ·intro _ h' E
   refine⟨h',?_,.refl⟩
   walk_at "e"
theorem Qbm (hn:1≤n)(M:MS h gs)(c:Cur gs B)(hl:h[l6]?=some (.lst (Yh B)))(hr:h[r]?=some (.lst (QU vs)))(hv:L12 vs)(dv:Wds vs):
  ∃h',QJ (QO (Qa 6)) (.one 11) [(tE (Qn 72 [(Qi (Qi (Qa 0) (Qa 11)) (Qj 1)),(Qa 2)]))] (Qa 11) (Qb ns n) ns [.loc 35,.sym nm,.loc r,.loc l,.loc l4,.int (g.num:Int),.loc l6,.unb,.unb,.unb,.unb,.unb,.unb,.unb] h=some (.loc h.length,h')∧Ext (h++[.lst (Yh (B.filter fun o=>leW vs o.ws))]) h':=by
 have ml:=c.1
 refine YO (C:=Qb ns n) (ns:=ns) (ps:=B) (src:=.lst l6) (h1:=h) (fun g=>.int (g.num:Int)) (fun o=>leW vs o.ws) (fun g=>.int (g.num:Int)) ?_ rfl (by omega) (fun i h' E=>W9 (E.get hl)) ?_
 ·walk_at "i"
 ·intro o ho
  obtain⟨mo,to⟩:=c.2 o ho
  refine⟨[.loc 35,.sym nm,.loc r,.loc l,.loc l4,.int (g.num:Int),.loc l6,.unb,.unb,.unb,.unb,.int (o.num:Int),.unb,.unb],rfl,?_,?_⟩
  ·intro h' E
   refine q0 ?_;intro Q;have M':=M.ext E
   have hl':=M'.l
   have it:=M'.itemN mo to
   obtain⟨_,ow,od⟩:=M.wf o mo
   have cm:=Fg (ns:=ns) (n:=n) hn (M'.w o mo to) (E.get hr) ow hv od dv
   refine⟨h',?_,.refl⟩
   refine Ys (x:=leW vs o.ws) (h₁:=h') ?_ (by cases leW vs o.ws<;>exact rfl)
   walk_at "t"
  ·intro _ h' E
   refine⟨h',?_,.refl⟩
   walk_at "e"
end
end
section
section
variable {ns:List Int} {n:Nat} {h h' h0:H} {gs A B:List Gm} {nm:Nat} {g:Gm} {r l l4 l6:Nat} {vs:List Nat} {x6 x7:PV}
def W8 (vs:List Nat)(A:List Gm)(g:Gm):Bool:=(A.filter (betB g)).any fun o=>leW vs o.ws
def N9:List SX:=[(sSet 6 (QJ (QO (Qa 3)) (.one 10) [(Yk [(tE (eNe (Qa 10) (Qa 5))),(tE (Qn 72 [(Qi (Qi (Qa 0) (Qa 5)) (Qj 1)),(Qi (Qi (Qa 0) (Qa 10)) (Qj 1))]))])] (Qa 10))),(sIf (tE (eEq (QJ (QO (Qa 6)) (.one 11) [(tE (Qn 72 [(Qi (Qi (Qa 0) (Qa 11)) (Qj 1)),(Qa 2)]))] (Qa 11)) (QE []))) [(sExp (Q8 (Qa 4) (Qa 5)))] [])]
theorem Zn:(Yh A).length=A.length:=List.length_map _
theorem Sz (hn:1≤n)(M:MS h0 gs)(c:Cur gs A)(hl:h0[l]?=some (.lst (Yh A)))(hr:h0[r]?=some (.lst (QU vs)))(hv:L12 vs)(dv:Wds vs):
  ∃x5 x6 h',YF (.one 5) (QN N9) 64 (.lst l) 0 (Qb ns n) ns [.loc 35,.sym nm,.loc r,.loc l,.loc h0.length,.unb,.unb,.unb,.unb,.unb,.unb,.unb,.unb,.unb] (h0++[.lst []])=some ((.nxt,[.loc 35,.sym nm,.loc r,.loc l,.loc h0.length,x5,x6,.unb,.unb,.unb,.unb,.unb,.unb,.unb]),h')∧Ext h0 h'∧h'[h0.length]?=some (.lst (Yh (A.filter fun g=>!W8 vs A g))):=by
 refine q0 ?_;intro Q;have ml:=c.1
 have H:=Q4 (t:=.one 5) (body:=QN N9) (src:=.lst l) (C:=Qb ns n) (ns:=ns) (K:=A.length) (items:=fun k=>(Yh A).getD k .unb)
  (fun k ρ h'=>Ext h0 h'∧(∃x y,ρ=[.loc 35,.sym nm,.loc r,.loc l,.loc h0.length,x,y,.unb,.unb,.unb,.unb,.unb,.unb,.unb])∧h'[h0.length]?=some (.lst (Yh ((A.take k).filter fun g=>!W8 vs A g))))
  (fun v h'=>False)
  (by
   rintro k ρ h' ⟨E,_⟩
   rw[YJ (E.get hl)]
   split
   ·rename_i c
    rewrite [List.getElem?_eq_getElem (by rw[Zn];exact c),List.getD_eq_getElem?_getD,List.getElem?_eq_getElem (by rw[Zn];exact c)]
    rfl
   ·rename_i c
    rw[List.getElem?_eq_none (by rw[Zn];exact o45 c)])
  (by
   intro k ρ h' lt hI;obtain⟨E,⟨x,y,rfl⟩,ha⟩:=hI
   have eg:=List.getElem?_eq_getElem lt
   generalize A[k]=g at eg
   have mA:g∈A:=List.mem_of_getElem? eg
   obtain⟨mg,tg⟩:=c.2 g mA
   have it:(Yh A).getD k .unb=.int (g.num:Int):=by
    rw[List.getD_eq_getElem?_getD]
    unfold Yh
    rw[List.getElem?_map,eg]
    rfl
   simp only[it]
   refine⟨[.loc 35,.sym nm,.loc r,.loc l,.loc h0.length,.int (g.num:Int),y,.unb,.unb,.unb,.unb,.unb,.unb,.unb],rfl,?_⟩
   refine q0 ?_;intro Q;have hk:=Y1 eg
   obtain⟨h1,e1,E1⟩:=Qa9 (ns:=ns) (n:=n) (nm:=nm) (r:=r) (l4:=h0.length) (x6:=y) hn (M.ext E) c (E.get hl) mg tg
   have E01:Ext h0 h1:=E.trans (Ext.trans (.snoc .refl) E1)
   obtain⟨h2,e2,E2⟩:=Qbm (ns:=ns) (n:=n) (nm:=nm) (l:=l) (l4:=h0.length) (g:=g) hn (M.ext E01) (c.filter (betB g)) (E1.get Qe) (E01.get hr) hv dv
   have E12:Ext h1 h2:=Ext.trans (.snoc .refl) E2
   have ha2:(h2++[AO.lst []])[h0.length]?=some (.lst (Yh ((A.take k).filter fun g=>!W8 vs A g))):=Qf (E12.get ((Ext.trans (.snoc .refl) E1).get ha))
   have l2:=E2.get Qe
   have nl:(Yh ((A.take k).filter fun g=>!W8 vs A g)).length≤50:=by
    rw[Zn]
    exact Nat.le_trans (List.length_filter_le _ _) (by rw[List.length_take];exact o217 lt ml)
   have sh:QG (Yh ((A.take k).filter fun g=>!W8 vs A g))=true:=Yu (by omega)
   cases q:(A.filter (betB g)).filter (fun o=>leW vs o.ws)with
   |nil=>
    rewrite [q]at l2
    have he:eqV (h2++[AO.lst []]) EQ (.loc h1.length) (.loc h2.length)=some true:=YU (Qf l2) Qe rfl
    have hf:W8 vs A g=false:=by
     unfold W8
     rw[List.any_eq_false]
     intro o ho hc
     have:o∈(A.filter (betB g)).filter (fun o=>leW vs o.ws):=List.mem_filter.mpr ⟨ho,hc⟩
     rw[q]at this
     cases this
    obtain⟨h4,r4,a4,b4,c4,d4⟩:=QC ha2 (.lst (Yh ((A.take k).filter fun g=>!W8 vs A g)++[.int (g.num:Int)]))
    refine⟨.nxt,[.loc 35,.sym nm,.loc r,.loc l,.loc h0.length,.int (g.num:Int),.loc h'.length,.unb,.unb,.unb,.unb,.unb,.unb,.unb],h4,?_,Or.inr ⟨Or.inl rfl,d4 h0 (E01.trans E12).snoc (Nat.le_refl _),⟨_,_,rfl⟩,?_⟩⟩
    ·unfold N9
     walk_at "ss"
    ·rw[a4,hk,List.filter_append,List.filter_cons_of_pos (by rw[hf];rfl),List.filter_nil]
     unfold Yh
     rw[List.map_append]
     rfl
   |cons o os=>
    rewrite [q]at l2
    have he:eqV (h2++[AO.lst []]) EQ (.loc h1.length) (.loc h2.length)=some false:=YU (Qf l2) Qe rfl
    have hf:W8 vs A g=true:=by
     unfold W8
     rw[List.any_eq_true]
     have:o∈(A.filter (betB g)).filter (fun o=>leW vs o.ws):=by rw[q];exact List.mem_cons_self
     exact⟨o,(List.mem_filter.mp this).1,(List.mem_filter.mp this).2⟩
    refine⟨.nxt,[.loc 35,.sym nm,.loc r,.loc l,.loc h0.length,.int (g.num:Int),.loc h'.length,.unb,.unb,.unb,.unb,.unb,.unb,.unb],h2++[.lst []],?_,Or.inr ⟨Or.inl rfl,(E01.trans E12).snoc,⟨_,_,rfl⟩,?_⟩⟩
    ·unfold N9
     walk_at "ss"
    ·rw[ha2,hk,List.filter_append,List.filter_cons_of_neg (by rw[hf];simp),List.filter_nil,List.append_nil])
  A.length 0 64 [.loc 35,.sym nm,.loc r,.loc l,.loc h0.length,.unb,.unb,.unb,.unb,.unb,.unb,.unb,.unb,.unb] (h0++[.lst []]) (by exact o30) (by exact o218 ml) ⟨.snoc .refl,⟨_,_,rfl⟩,Qe⟩
 obtain⟨fl,ρ',h',e,rr⟩:=H
 rcases rr with ⟨v,rfl,F⟩|⟨rfl,E,⟨x,y,rfl⟩,ha⟩
 ·exact F.elim
 simp only[List.take_length]at ha
 exact⟨x,y,h',e,E,ha⟩
end
end
section
section
variable {ns:List Int} {n:Nat} {h h' h0:H} {gs A B:List Gm} {nm:Nat} {g:Gm} {r l l4 l6:Nat} {vs:List Nat} {x5 x6 x7:PV}
def nbB (g o:Gm):Bool:=!Nat.beq o.num g.num&&!leW g.ws o.ws
def bstB (A:List Gm)(g:Gm):Bool:=(A.filter (nbB g)).isEmpty
theorem Qbp (hn:1≤n)(M:MS h gs)(c:Cur gs A)(hl:h[l]?=some (.lst (Yh A)))(mg:g∈gs)(tg:g.to=none):
  ∃h',QJ (QO (Qa 3)) (.one 13) [(Yk [(tE (eNe (Qa 13) (Qa 12))),(ZO (tE (Qn 72 [(Qi (Qi (Qa 0) (Qa 13)) (Qj 1)),(Qi (Qi (Qa 0) (Qa 12)) (Qj 1))])))])] (Qa 13) (Qb ns n) ns [.loc 35,.sym nm,.loc r,.loc l,.loc l4,x5,x6,.unb,.unb,.unb,.unb,.unb,.int (g.num:Int),.unb] h=some (.loc h.length,h')∧Ext (h++[.lst (Yh (A.filter (nbB g)))]) h':=by
 have ml:=c.1
 refine YO (C:=Qb ns n) (ns:=ns) (ps:=A) (src:=.lst l) (h1:=h) (fun g=>.int (g.num:Int)) (nbB g) (fun g=>.int (g.num:Int)) ?_ rfl (by omega) (fun i h' E=>W9 (E.get hl)) ?_
 ·walk_at "i"
 ·intro o ho
  obtain⟨mo,to⟩:=c.2 o ho
  refine⟨[.loc 35,.sym nm,.loc r,.loc l,.loc l4,x5,x6,.unb,.unb,.unb,.unb,.unb,.int (g.num:Int),.int (o.num:Int)],rfl,?_,?_⟩
  ·intro h' E
   refine q0 ?_;intro Q;have M':=M.ext E
   have hl':=M'.l
   have it:=M'.itemN mo to
   have it':=M'.itemN mg tg
   obtain⟨_,gw,gd⟩:=M.wf g mg
   obtain⟨_,ow,od⟩:=M.wf o mo
   have cm:=Fg (ns:=ns) (n:=n) hn (M'.w o mo to) (M'.w g mg tg) ow gw od gd
   have ek:eqV h' EQ (.int (o.num:Int)) (.int (g.num:Int))=some (Nat.beq o.num g.num):=Ni
   refine⟨h',?_,.refl⟩
   refine Ys (x:=nbB g o) (h₁:=h') ?_ (by cases nbB g o<;>exact rfl)
   cases q:Nat.beq o.num g.num with
   |true=>
    rw[q]at ek
    rw[show nbB g o=false by unfold nbB;rw[q];rfl]
    refine Ys (x:=!true) (h₁:=h') ?_ rfl
    walk_at "t"
   |false=>
    rw[q]at ek
    rw[show nbB g o=!leW g.ws o.ws by unfold nbB;rw[q];rfl]
    refine Ys (x:=!false) (h₁:=h') ?_ ?_
    ·walk_at "t"
    ·refine Ys (x:=!leW g.ws o.ws) (h₁:=h') ?_ (by cases leW g.ws o.ws<;>exact rfl)
     walk_at "t"
  ·intro _ h' E
   refine⟨h',?_,.refl⟩
   walk_at "e"
theorem Qbt (hn:1≤n)(M:MS h gs)(c:Cur gs A)(hl:h[l]?=some (.lst (Yh A))):
  ∃h',QJ (QO (Qa 3)) (.one 12) [(tE (eEq (QJ (QO (Qa 3)) (.one 13) [(Yk [(tE (eNe (Qa 13) (Qa 12))),(ZO (tE (Qn 72 [(Qi (Qi (Qa 0) (Qa 13)) (Qj 1)),(Qi (Qi (Qa 0) (Qa 12)) (Qj 1))])))])] (Qa 13)) (QE [])))] (Qa 12) (Qb ns n) ns [.loc 35,.sym nm,.loc r,.loc l,.loc l4,x5,x6,.unb,.unb,.unb,.unb,.unb,.unb,.unb] h=some (.loc h.length,h')∧Ext (h++[.lst (Yh (A.filter (bstB A)))]) h':=by
 have ml:=c.1
 refine YO (C:=Qb ns n) (ns:=ns) (ps:=A) (src:=.lst l) (h1:=h) (fun g=>.int (g.num:Int)) (bstB A) (fun g=>.int (g.num:Int)) ?_ rfl (by omega) (fun i h' E=>W9 (E.get hl)) ?_
 ·walk_at "i"
 ·intro g hg
  obtain⟨mg,tg⟩:=c.2 g hg
  refine⟨[.loc 35,.sym nm,.loc r,.loc l,.loc l4,x5,x6,.unb,.unb,.unb,.unb,.unb,.int (g.num:Int),.unb],rfl,?_,?_⟩
  ·intro h' E
   obtain⟨h2,e2,E2⟩:=Qbp (ns:=ns) (n:=n) (nm:=nm) (r:=r) (l4:=l4) (x5:=x5) (x6:=x6) hn (M.ext E) c (E.get hl) mg tg
   have l2:=E2.get Qe
   refine⟨h2++[.lst []],?_,(Ext.trans (.snoc .refl) E2).snoc⟩
   have he:eqV (h2++[AO.lst []]) EQ (.loc h'.length) (.loc h2.length)=some (bstB A g):=by
    refine YU (Qf l2) Qe ?_
    unfold bstB
    cases A.filter (nbB g)<;>rfl
   refine Ys (x:=bstB A g) (h₁:=h2++[.lst []]) ?_ (by cases bstB A g<;>exact rfl)
   walk_at "t"
  ·intro _ h' E
   refine⟨h',?_,.refl⟩
   walk_at "e"
end
end
section
section
variable {ns:List Int} {n:Nat} {h h' h0:H} {gs A B:List Gm} {nm:Nat} {g:Gm} {r l l4 l6:Nat} {vs:List Nat} {x5 x6 x7:PV}
def ZN (nm:Nat)(vs:List Nat)(gs:List Gm):List Gm:=(WH nm gs).filter fun g=>mtW g.ws vs
def UG (vs:List Nat):Bool:=vs.any (fun v=>Nat.beq v 12)||vs.any (fun v=>Nat.beq v 9)
def laL (nm:Nat)(vs:List Nat)(gs:List Gm):List Gm:=
 cond (UG vs) ((ZN nm vs gs).filter fun g=>!W8 vs (ZN nm vs gs) g) (cond ((ZN nm vs gs).filter (bstB (ZN nm vs gs))).isEmpty (ZN nm vs gs) ((ZN nm vs gs).filter (bstB (ZN nm vs gs))))
theorem UD {k:Nat}:∀{vs:List Nat},anyV h (.sym k) (QU vs)=some (vs.any fun v=>Nat.beq v k)
 |[]=>rfl
 |v::vs=>by
  have ih:=UD (k:=k) (vs:=vs)
  show(match some (Nat.beq v k)with
   |some true=>(match anyV h (.sym k) (QU vs)with|some _=>some true|none=>none)
   |some false=>anyV h (.sym k) (QU vs)
   |none=>none)=_
  rw[ih,List.any_cons]
  cases Nat.beq v k<;>rfl
theorem Qba (hn:2≤n)(M:MS h gs)(hr:h[r]?=some (.lst (QU vs)))(hv:L12 vs)(dv:Wds vs):Qb ns n 74 [.loc 35,.sym nm,.loc r] h=some (.loc h.length,h++[.lst (Yh (laL nm vs gs))]):=by
 have cc:Cur gs (WH nm gs):=⟨Nat.le_trans (List.length_filter_le _ _) M.len,fun g hg=>by
  have:=List.mem_filter.mp hg
  unfold Do at this
  rw[Bool.and_eq_true,Option.isNone_iff_eq_none]at this
  exact⟨this.1,this.2.1⟩⟩
 obtain⟨h1,e1,E1⟩:=la1 (ns:=ns) (nm:=nm) (r:=.loc r) (C:=Qb ns (n - 1)) M
 have E01:Ext h h1:=Ext.trans (.snoc .refl) E1
 obtain⟨h2,e2,E2⟩:=la2 (ns:=ns) (n:=n - 1) (nm:=nm) (by omega) (M.ext E01) cc (E1.get Qe) (E01.get hr) hv dv
 have E02:Ext h h2:=E01.trans (Ext.trans (.snoc .refl) E2)
 have cA:Cur gs (ZN nm vs gs):=cc.filter _
 have l3:h2[h1.length]?=some (.lst (Yh (ZN nm vs gs))):=E2.get Qe
 obtain⟨x5,x6,h3,e3,E3,l4⟩:=Sz (ns:=ns) (n:=n - 1) (nm:=nm) (by omega) (M.ext E02) cA l3 (E02.get hr) hv dv
 have E03:=E02.trans E3
 obtain⟨h4,e4,E4⟩:=Qbt (ns:=ns) (n:=n - 1) (nm:=nm) (r:=r) (l4:=h2.length) (x5:=x5) (x6:=x6) (by omega) (M.ext E03) cA (E3.get l3)
 have hr3:=E03.get hr
 have a12:anyV h3 (.sym 12) (QU vs)=some (vs.any fun v=>Nat.beq v 12):=UD
 have a9:anyV h3 (.sym 9) (QU vs)=some (vs.any fun v=>Nat.beq v 9):=UD
 have g1:Ext h h4:=E03.trans (Ext.trans (.snoc .refl) E4)
 have l7:=E4.get Qe
 have l34:h4[h1.length]?=some (.lst (Yh (ZN nm vs gs))):=(Ext.trans (.snoc .refl) E4).get (E3.get l3)
 have ge1:h.length≤h1.length:=E01.le
 have ge2:h.length≤h2.length:=E02.le
 have ge3:h.length≤h3.length:=E03.le
 cases q12:vs.any (fun v=>Nat.beq v 12)with
 |true=>
  rw[q12]at a12
  rw[show laL nm vs gs=(ZN nm vs gs).filter fun g=>!W8 vs (ZN nm vs gs) g by delta laL UG;rw[q12];rfl]
  refine L_n (by omega) rfl ?_ E03 ge2 l4 (Zq _)
  apply Qd TJ
  ·apply Qt
   ·walk_at "s"
   apply Q2
   apply Qt
   ·walk_at "s"
   apply Q2
   apply Qt
   ·walk_at "s"
   apply Q2
   apply Qt
   ·apply YG
    ·walk_at "i"
    ·exact e3
   apply Q2
   walk_at "ss"
  ·exact rfl
 |false=>
  rw[q12]at a12
  cases q9:vs.any (fun v=>Nat.beq v 9)with
  |true=>
   rw[q9]at a9
   rw[show laL nm vs gs=(ZN nm vs gs).filter fun g=>!W8 vs (ZN nm vs gs) g by unfold laL UG;rw[q12,q9];rfl]
   refine L_n (by omega) rfl ?_ E03 ge2 l4 (Zq _)
   apply Qd TJ
   ·apply Qt
    ·walk_at "s"
    apply Q2
    apply Qt
    ·walk_at "s"
    apply Q2
    apply Qt
    ·walk_at "s"
    apply Q2
    apply Qt
    ·apply YG
     ·walk_at "i"
     ·exact e3
    apply Q2
    walk_at "ss"
   ·exact rfl
  |false=>
   rw[q9]at a9
   cases qb:(ZN nm vs gs).filter (bstB (ZN nm vs gs))with
   |nil=>
    rw[qb]at l7
    have he:eqV (h4++[AO.lst []]) EQ (.loc h3.length) (.loc h4.length)=some true:=YU (Qf l7) Qe rfl
    rw[show laL nm vs gs=ZN nm vs gs by delta laL UG;rw[q12,q9,qb];rfl]
    refine L_n (h':=h4++[AO.lst []]) (by omega) rfl ?_ g1.snoc ge1 (Qf l34) (Zq _)
    apply Qd TJ
    ·apply Qt
     ·walk_at "s"
     apply Q2
     apply Qt
     ·walk_at "s"
     apply Q2
     apply Qt
     ·walk_at "s"
     apply Q2
     apply Qt
     ·apply YG
      ·walk_at "i"
      ·exact e3
     apply Q2
     walk_at "ss"
    ·exact rfl
   |cons o os=>
    rw[qb]at l7
    have he:eqV (h4++[AO.lst []]) EQ (.loc h3.length) (.loc h4.length)=some false:=YU (Qf l7) Qe rfl
    rw[show laL nm vs gs=o::os by unfold laL UG;rw[q12,q9,qb];rfl]
    refine L_n (h':=h4++[AO.lst []]) (by omega) rfl ?_ g1.snoc ge3 (Qf l7) (Zq _)
    apply Qd TJ
    ·apply Qt
     ·walk_at "s"
     apply Q2
     apply Qt
     ·walk_at "s"
     apply Q2
     apply Qt
     ·walk_at "s"
     apply Q2
     apply Qt
     ·apply YG
      ·walk_at "i"
      ·exact e3
     apply Q2
     walk_at "ss"
    ·exact rfl
end
end
section
theorem Fc (ws vs:List Nat):mtW ws vs=mtW vs ws:=by
 induction ws generalizing vs with
 |nil=>cases vs<;>rfl
 |cons w ws ih=>cases vs with
  |nil=>rfl
  |cons v vs=>
   show((Yb w v||Yb v w)&&mtW ws vs)=((Yb v w||Yb w v)&&mtW vs ws)
   rw[ih vs,Bool.or_comm]
theorem LZ {ws vs:List Nat}(dw:Wds ws)(dv:Wds vs)(c:vs.all Z3=true):mtW vs ws=leW vs ws:=by
 induction ws generalizing vs with
 |nil=>cases vs<;>rfl
 |cons w ws ih=>cases vs with
  |nil=>rfl
  |cons v vs=>
   have c:=Bool.and_eq_true_iff.mp c
   show((Yb v w||Yb w v)&&mtW vs ws)=(Yb v w&&leW vs ws)
   rw[ih (fun x hx=>dw x (.tail _ hx)) (fun x hx=>dv x (.tail _ hx)) c.2]
   refine congrArg (·&&_) ?_
   have hw:=dw w (.head _)
   have hv:=dv v (.head _)
   have c1:=c.1
   clear c dw dv ih;rcases hw with rfl|rfl|rfl|rfl<;>rcases hv with rfl|rfl|rfl|rfl<;>first|rfl|exact ff c1
def Dst (L:List Gm):Prop:=(L.map (·.ws)).Nodup∧(∀a∈L,∀b∈L,Nat.beq a.num b.num=eqW a.ws b.ws)∧∀g∈L,Wds g.ws
theorem Dst.filter {L:List Gm}(d:Dst L)(p:Gm→Bool):Dst (L.filter p):=
 ⟨List.Nodup.sublist (List.Sublist.map _ List.filter_sublist) d.1,fun a ha b hb=>d.2.1 a (List.mem_filter.mp ha).1 b (List.mem_filter.mp hb).1,fun g hg=>d.2.2 g (List.mem_filter.mp hg).1⟩
theorem R4 {A:List Gm}{vs:List Nat}{g:Gm}(d:Dst A)(mg:g∈A):W8 vs A g=hid A vs g:=by
 rw[Bool.eq_iff_iff]
 unfold W8 hid
 rw[List.any_eq_true,List.any_eq_true]
 constructor
 ·rintro ⟨o,ho,q⟩
  obtain⟨ho,b⟩:=List.mem_filter.mp ho
  refine⟨o,ho,?_⟩
  unfold betB at b
  unfold BB
  simp only[d.2.1 o ho g mg]at b
  revert b q
  cases eqW o.ws g.ws<;>cases leW vs o.ws<;>cases leW o.ws g.ws<;>simp
 ·rintro ⟨o,ho,q⟩
  refine q0 ?_;intro Q;unfold BB at q
  have e:=d.2.1 o ho g mg
  revert q
  cases q1:eqW o.ws g.ws<;>cases q2:leW vs o.ws<;>cases q3:leW o.ws g.ws<;>intro q<;>first|cases q|skip
  exact⟨o,List.mem_filter.mpr ⟨ho,by unfold betB;rw[e,q1,q3];rfl⟩,q2⟩
theorem SS {A:List Gm}{g:Gm}(d:Dst A)(mg:g∈A):bstB A g=Jd A g:=by
 rw[Bool.eq_iff_iff]
 unfold bstB Jd
 rw[List.isEmpty_iff,List.filter_eq_nil_iff,List.all_eq_true]
 constructor
 ·intro q o ho
  have:=q o ho
  unfold nbB at this
  rw[d.2.1 o ho g mg]at this
  revert this
  cases eqW o.ws g.ws<;>cases leW g.ws o.ws<;>simp
 ·intro q o ho
  have:=q o ho
  unfold nbB
  rw[d.2.1 o ho g mg]
  revert this
  cases eqW o.ws g.ws<;>cases leW g.ws o.ws<;>simp
end
section
theorem U5 {α β:Type}{p:α→Bool}{f:α→β}{g:α}:∀{F:List α},(F.map f).Nodup→g∈F→p g=true→(∀x∈F,p x=true→f x=f g)→F.filter p=[g]
 |[],_,m,_,_=>by cases m
 |x::xs,nd,m,pg,u=>by
  rw[List.map_cons,List.nodup_cons]at nd
  cases q:p x with
  |true=>
   clear pg;have fx:=u x (by simp) q
   have xg:x=g:=by
    rcases List.mem_cons.mp m with e|e
    ·exact e.symm
    ·exact absurd (by rw[fx];exact List.mem_map_of_mem e) nd.1
   clear fx m;subst xg
   rw[List.filter_cons_of_pos q]
   congr 1
   rw[List.filter_eq_nil_iff]
   intro y hy py
   exact nd.1 (by simp only[←u y (by simp[hy]) py];exact List.mem_map_of_mem hy)
  |false=>
   rw[List.filter_cons_of_neg (by rw[q];simp)]
   rcases List.mem_cons.mp m with e|e
   clear u m nd;· subst e;rw[pg]at q;cases q
   ·exact U5 nd.2 e pg fun y hy=>u y (by simp[hy])
theorem LY {vs:List Nat}(dv:Wds vs):UG vs=!vs.all Z3:=by
 rw[Bool.eq_iff_iff]
 unfold UG
 rewrite [Bool.or_eq_true,List.any_eq_true,List.any_eq_true,Bool.not_eq_true',List.all_eq_false]
 constructor
 ·rintro (⟨v,hv,e⟩|⟨v,hv,e⟩)
  ·have:=Nat.eq_of_beq_eq_true e
   clear e;subst this
   exact⟨_,hv,by decide⟩
  ·have:=Nat.eq_of_beq_eq_true e
   clear e;subst this
   exact⟨_,hv,by decide⟩
 ·rintro ⟨v,hv,e⟩
  refine q0 ?_;intro Q;rcases dv v hv with rfl|rfl|rfl|rfl
  ·exact Or.inr ⟨_,hv,rfl⟩
  ·exact absurd rfl e
  ·exact absurd rfl e
  ·exact Or.inl ⟨_,hv,rfl⟩
theorem CN {F:List Gm}(d:Dst F):aL F=cond (F.filter (Jd F)).isEmpty F (F.filter (Jd F)):=by
 unfold aL
 cases e:F.find? (Jd F)with
 |none=>
  have:F.filter (Jd F)=[]:=List.filter_eq_nil_iff.mpr fun x hx=>List.find?_eq_none.mp e x hx
  rw[this]
  rfl
 |some g=>
  have b:=List.find?_some e
  have m:=List.mem_of_find?_eq_some e
  have:F.filter (Jd F)=[g]:=by
   refine U5 (f:=(·.ws)) d.1 m b fun x hx px=>?_
   have c1:=List.all_eq_true.mp px g m
   have c2:=List.all_eq_true.mp b x hx
   simp only[Bool.or_eq_true]at c1 c2
   rcases c1 with c1|c1
   ·exact(Q7.mp c1).symm
   ·rcases c2 with c2|c2
    ·exact Q7.mp c2
    ·exact Ws (d.2.2 x hx) (d.2.2 g m) c1 c2
  rw[this]
  rfl
theorem Xd {nm:Nat}{vs:List Nat}{gs:List Gm}(d:Dst (WH nm gs))(dv:Wds vs):laL nm vs gs=Y8 vs (WH nm gs):=by
 have hm:ZN nm vs gs=metL vs (WH nm gs):=by
  delta ZN metL
  congr 1
  funext g
  exact Fc _ _
 unfold laL Y8
 rewrite [LY dv,hm]
 have dA:Dst (metL vs (WH nm gs)):=d.filter _
 cases q:vs.all Z3 with
 |false=>
  show List.filter _ _=mayL _ _
  unfold mayL
  exact List.filter_congr fun g hg=>by rw[R4 dA hg]
 |true=>
  show cond _ _ _=aL _
  have hf:metL vs (WH nm gs)=fitL vs (WH nm gs):=by
   delta metL fitL
   exact List.filter_congr fun g hg=>LZ (d.2.2 g hg) dv q
  have hb:(metL vs (WH nm gs)).filter (bstB (metL vs (WH nm gs)))=(metL vs (WH nm gs)).filter (Jd (metL vs (WH nm gs))):=List.filter_congr fun g hg=>SS dA hg
  rw[hb,hf,CN (hf▸dA)]
  rfl
end
section
section
variable {C:CT} {ns:List Int} {ρ:Lc} {h h₁ h₂ h₃ h₄:H} {a b e o i:EX} {v:PV} {m:Nat} {j:Int} {ps:List PV}
theorem FB (e1:e C ns ρ h=some (v,h₁))(e2:o C ns ρ h₁=some (.loc m,h₂))(e3:i C ns ρ h₂=some (.int j,h₃))(e4:h₃[m]?=some (.lst ps))(k:(Yt j&&decide (0≤j)&&Nat.blt j.toNat ps.length)=true)(s:Y0 h₃ m (.lst (ps.set j.toNat v)) h₄):BE o i e C ns ρ h=some ((.nxt,ρ),h₄):=by
 refine Qv e1 (Qv e2 (Qv e3 ?_))
 have:Be (.loc m) (.int j) v h₃=some h₄:=OR ((Yj e4).trans (gdT k (by rw[←s];rfl)))
 rw[this]
theorem AU {x y:Int}(e1:a C ns ρ h=some (.int x,h₁))(e2:b C ns ρ h₁=some (.int y,h₂))(k:Zx y=true):PW a b C ns ρ h=some (.int (Int.fmod x y),h₂):=Y2 (f:=E7) e1 e2 (by show Option.map _ (gd _ _)=_;rw[k];rfl)
theorem VB {x y:Int}(e1:a C ns ρ h=some (.int x,h₁))(e2:b C ns ρ h₁=some (.int y,h₂))(k:Zx y=true):Px a b C ns ρ h=some (.int (Int.fdiv x y),h₂):=Y2 (f:=L4) e1 e2 (by show Option.map _ (gd _ _)=_;rw[k];rfl)
end
end
section
def Zf (a b:Int):AO:=.lst [.int a,.int b]
def JOk (a b:Int):Prop:=0≤a∧0≤b∧b<2147483563
def Shk (h h':H):Prop:=∃a b,JOk a b∧h'=h.set 0 (Zf a b)
def Jar (h:H):Prop:=∃a b,JOk a b∧h[0]?=some (Zf a b)
theorem Jar.shk {h:H}(J:Jar h):Shk h h:=by
 obtain⟨a,b,ok,e⟩:=J
 refine⟨a,b,ok,?_⟩
 apply List.ext_getElem?
 intro i
 rw[List.getElem?_set]
 split
 ·rename_i q
  subst q
  rw[if_pos (Qc e),e]
 ·rfl
section
variable {ns:List Int} {n k:Nat} {h:H}
theorem BZ (hn:1≤n)(J:Jar h)(k1:1≤k)(k2:k≤1000):∃(r:Nat) (h':H),r<k∧Qb ns n 69 [.loc 0,.int (k:Int)] h=some (.int (r:Int),h')∧Shk h h':=by
 have J':=J
 obtain⟨a,b,⟨a0,b0,b1⟩,hj⟩:=J
 unfold Zf at hj
 have dk:Zx (k:Int)=true:=by unfold Zx;simp;exact o219 k1 k2
 have kp:(0:Int)<(k:Int):=by exact o220 k1 k2
 have cast:∀x:Int,∃r:Nat,r<k∧Int.fmod x (k:Int)=(r:Int):=fun x=>by
  have p0:=Int.fmod_nonneg_of_pos x kp
  have p1:=Int.fmod_lt_of_pos x kp
  exact⟨(Int.fmod x k).toNat,by exact o221 k1 k2 p1,by exact o222 p0⟩
 by_cases q:0<a
 ·have c:(fun a b:Int=>decide (b<a)) a 0=true:=by simp[q]
  obtain⟨r,hr,er⟩:=cast a
  obtain⟨h2,r2,a2,b2,c2,d2⟩:=QC hj (.lst [.int (Int.fdiv a k),.int b])
  have st:Q0 (Qb ns (n - 1)) ns 69 [.loc 0,.int (k:Int)] h=some (.int (Int.fmod a k),h2):=by
   apply Qd Cz
   ·walk_at "body"
   ·exact rfl
  rw[er]at st
  obtain⟨h3,e3,S⟩:=Jr (Shk h) hn rfl st rfl J'.shk ⟨_,_,⟨Int.fdiv_nonneg a0 (by exact o223 k1 k2),b0,b1⟩,r2.symm⟩
  exact⟨r,h3,hr,e3,S⟩
 ·have c:(fun a b:Int=>decide (b<a)) a 0=false:=by simp;exact o224 a0 q
  have hm:RS (.int b) (.int 40014) h=some (.int (b*40014),h):=by
   show Option.map _ (gd (Yt b&&Yt 40014) _)=_
   rw[show Yt b=true from decide_eq_true (Int.ofNat_lt.mp (by rw[Int.natAbs_of_nonneg b0];exact Int.lt_trans b1 (by decide)))]
   rfl
  obtain⟨r,hr,er⟩:=cast (Int.fdiv (Int.fmod (b*40014+31) 2147483563) 32)
  obtain⟨h2,r2,a2,b2,c2,d2⟩:=QC hj (.lst [.int a,.int (Int.fmod (b*40014+31) 2147483563)])
  have st:Q0 (Qb ns (n - 1)) ns 69 [.loc 0,.int (k:Int)] h=some (.int (Int.fmod (Int.fdiv (Int.fmod (b*40014+31) 2147483563) 32) k),h2):=by
   apply Qd Cz
   ·walk_at "body"
   ·exact rfl
  simp only[er]at st
  obtain⟨h3,e3,S⟩:=Jr (Shk h) hn rfl st rfl J'.shk ⟨_,_,⟨a0,Int.fmod_nonneg_of_pos _ (by decide),Int.fmod_lt_of_pos _ (by decide)⟩,r2.symm⟩
  exact⟨r,h3,hr,e3,S⟩
end
end
section
section
variable {ns:List Int} {n k f l:Nat} {h h1 h' X:H} {args:List PV} {o:AO}
theorem Shk.len (S:Shk h h'):h'.length=h.length:=by obtain⟨a,b,_,rfl⟩:=S;exact List.length_set
theorem Shk.jar (S:Shk h h')(h0:0<h.length):Jar h':=by
 obtain⟨a,b,ok,rfl⟩:=S
 exact⟨a,b,ok,List.getElem?_set_self h0⟩
theorem Shk.get (S:Shk h h'){i:Nat}(hi:i≠0):h'[i]?=h[i]?:=by
 obtain⟨a,b,ok,rfl⟩:=S
 exact List.getElem?_set_ne (Ne.symm hi)
theorem Shk.trans (S:Shk h h1)(S':Shk h1 h'):Shk h h':=by
 obtain⟨a,b,ok,rfl⟩:=S
 obtain⟨a',b',ok',rfl⟩:=S'
 exact⟨a',b',ok',by rw[List.set_set]⟩
theorem Shk.split (S:Shk (h++X) h')(h0:0<h.length):∃h1,Shk h h1∧h'=h1++X:=by
 obtain⟨a,b,ok,rfl⟩:=S
 exact⟨_,⟨a,b,ok,rfl⟩,List.set_append_left _ _ h0⟩
theorem Jar.pos (J:Jar h):0<h.length:=by
 obtain⟨a,b,_,e⟩:=J
 exact Qc e
theorem Jar.app (J:Jar h):Jar (h++X):=by
 obtain⟨a,b,ok,e⟩:=J
 exact⟨a,b,ok,Qf e⟩
theorem Ol (J:Jar h)(hn:1≤n)(lo:Jb f=false)(e:Q0 (Qb ns (n - 1)) ns f args h=some (.loc h.length,h'++[o]))(S:Shk h h')(ol:JI h.length o=true):∃h₂,Qb ns n f args h=some (.loc h.length,h₂++[o])∧Shk h h₂:=by
 by_cases q:h'=h
 ·subst q
  exact⟨h',L_n hn lo e (.snoc .refl) (Nat.le_refl _) Qe ol,J.shk⟩
 ·refine⟨h',L_k hn lo e ?_,S⟩
  unfold gcU
  dsimp only
  rw[if_neg]
  intro c
  rw[←S.len,List.take_left]at c
  exact q c
end
end
section
section
variable {ns:List Int} {n k l:Nat} {h h1 h' X:H} {nms:List Nat}
theorem Mx {N:Nat}:∀ws:List Nat,Yc N (QU ws)=true
 |[]=>rfl
 |w::ws=>by
  show(Yp N (.sym w)&&Yc N (QU ws))=true
  rw[Mx ws]
  rfl
theorem Mv {r:Nat}(hr:r<nms.length)(hk:nms.length≤50):∃w,w∈nms∧Yw (QU nms) (r:Int)=some (.sym w):=
 ⟨nms[r],List.getElem_mem hr,YI (by exact o84 hr hk) (by unfold QU;simp only[List.getElem?_map,List.getElem?_eq_getElem hr];rfl)⟩
theorem SQ (hn:2≤n)(J:Jar h)(l0:l≠0)(hl:h[l]?=some (.lst (QU nms)))(k1:1≤nms.length)(k2:nms.length≤50):∃ws h',L12 ws∧(∀w∈ws,w∈nms)∧Qb ns n 70 [.loc 0,.loc l] h=some (.loc h.length,h'++[.lst (QU ws)])∧Shk h h':=by
 have len:(QU nms).length=nms.length:=List.length_map _
 have sh:QG (QU nms)=true:=Yu (by omega)
 obtain⟨c,h1,hc,e1,S1⟩:=BZ (ns:=ns) (n:=n - 1) (k:=2) (by omega) J (by omega) (by omega)
 have J1:=S1.jar J.pos
 have hl1:h1[l]?=some (.lst (QU nms)):=(S1.get l0).trans hl
 obtain⟨r2,h2',hr2,e2,T2⟩:=BZ (ns:=ns) (n:=n - 1) (k:=nms.length) (by omega) (J1.app (X:=[.lst []])) k1 (by omega)
 obtain⟨h2,S2,rfl⟩:=T2.split J1.pos
 obtain⟨w,mw,iw⟩:=Mv hr2 k2
 have hl2:h2[l]?=some (.lst (QU nms)):=(S2.get l0).trans hl1
 have J2:=S2.jar J1.pos
 have q12:=S2.len
 have q01:=S1.len
 have e1':Qb ns (n - 1) 69 [.loc 0,.int 2] h=some (.int (c:Int),h1):=e1
 clear e1;have e2':Qb ns (n - 1) 69 [.loc 0,.int ((QU nms).length:Int)] (h1++[.lst []])=some (.int (r2:Int),h2++[.lst []]):=by rw[len];exact e2
 have hl12:(h1++[AO.lst []])[l]?=some (.lst (QU nms)):=Qf hl1
 have s2:Y0 (h2++[AO.lst []]) h1.length (.lst ([]++[.sym w])) (h2++[.lst ([]++[.sym w])]):=by rw[←q12];exact N3
 have g2:(h2++[AO.lst []])[h1.length]?=some (.lst []):=by rw[←q12];exact Qe
 rcases(show c=0∨c=1 by exact o226 hc)with rfl|rfl
 ·have rg:ZH 0 (1+((0:Nat):Int)) h1=some (.rng 0 1,h1):=rfl
  have st:Q0 (Qb ns (n - 1)) ns 70 [.loc 0,.loc l] h=some (.loc h.length,h2++[.lst (QU [w])]):=by
   rw[←q01]
   apply Qd C4
   ·apply Qt
    ·(with_reducible apply NB)
     (with_reducible apply BK)
     ·walk_at "i"
     ·walk_at "rs"
     ·walk_at "cl"
    ·exact BW
   ·exact rfl
  obtain⟨h3,e3,S3⟩:=Ol J (by omega) rfl st (S1.trans S2) (Mx _)
  exact⟨[w],h3,Or.inl ⟨_,rfl⟩,by intro x hx;rw[List.mem_singleton.mp hx];exact mw,e3,S3⟩
 ·have rg:ZH 0 (1+((1:Nat):Int)) h1=some (.rng 0 2,h1):=rfl
  obtain⟨r3,h3',hr3,e3,T3⟩:=BZ (ns:=ns) (n:=n - 1) (k:=nms.length) (by omega) (J2.app (X:=[.lst ([]++[.sym w])])) k1 (by omega)
  obtain⟨h3,S3,rfl⟩:=T3.split J2.pos
  clear T3;obtain⟨v,mv,iv⟩:=Mv hr3 k2
  have q23:=S3.len
  have hl22:(h2++[AO.lst ([]++[.sym w])])[l]?=some (.lst (QU nms)):=Qf hl2
  have hl3:(h3++[AO.lst ([]++[.sym w])])[l]?=some (.lst (QU nms)):=Qf ((S3.get l0).trans hl2)
  have e3':Qb ns (n - 1) 69 [.loc 0,.int ((QU nms).length:Int)] (h2++[.lst ([]++[.sym w])])=some (.int (r3:Int),h3++[.lst ([]++[.sym w])]):=by rw[len];exact e3
  clear e3;have s3:Y0 (h3++[AO.lst ([]++[.sym w])]) h1.length (.lst ([]++[.sym w]++[.sym v])) (h3++[.lst ([]++[.sym w]++[.sym v])]):=by simp only[←q12,←q23];exact N3
  have g3:(h3++[AO.lst ([]++[.sym w])])[h1.length]?=some (.lst ([]++[.sym w])):=by simp only[←q12,←q23];exact Qe
  have st:Q0 (Qb ns (n - 1)) ns 70 [.loc 0,.loc l] h=some (.loc h.length,h3++[.lst (QU [w,v])]):=by
   rw[←q01]
   apply Qd C4
   ·apply Qt
    ·(with_reducible apply NB)
     (with_reducible apply BK)
     ·walk_at "i"
     ·walk_at "rs"
     ·(with_reducible apply Kk)
      ·exact(Eq.trans (by walk_at "sa") (by exact rfl))
      ·walk_at "put"
      ·walk_at "t"
      ·(with_reducible apply RY)
       ·walk_at "tf"
       ·(with_reducible apply OS)
        ·walk_at "e"
        ·walk_at "lk"
        ·walk_at "sh"
        ·walk_at "st"
       ·(with_reducible apply Kk)
        ·exact(Eq.trans (by walk_at "sa") (by exact rfl))
        ·walk_at "put"
        ·walk_at "t"
        ·(with_reducible apply RY)
         ·walk_at "tf"
         ·(with_reducible apply OS)
          ·walk_at "e"
          ·walk_at "lk"
          ·walk_at "sh"
          ·walk_at "st"
         ·walk_at "cl"
    ·exact BW
   ·exact rfl
  clear g3 s3 e3' hl3 hl22 s2 iw;obtain⟨h4,e4,S4⟩:=Ol J (by omega) rfl st ((S1.trans S2).trans S3) (Mx _)
  clear st;refine⟨[w,v],h4,Or.inr ⟨_,_,rfl⟩,?_,e4,S4⟩
  clear e4;intro x hx
  rcases List.mem_cons.mp hx with rfl|hx
  ·exact mw
  ·rw[List.mem_singleton.mp hx];exact mv
end
end
section
section
variable {ns:List Int} {n k l i nm nl t W:Nat} {h h1 h' X:H} {g:Gm} {p:PV}
def JR (nm:Nat)(p:PV)(nl:Nat)(i W:Int):AO:=.ins 7 [(41,.int i),(22,.sym nm),(23,p),(42,.loc nl),(43,.bool false),(44,.none),(45,.none),(24,.int W),(46,.none)]
theorem Lv (hn:1≤n)(kp:J4 p=true):Qb ns n 49 [.loc h.length,.int 0,.sym nm,p,.loc nl,.bool false,.none,.none] (h++[.ins 7 []])=some (.none,h++[JR nm p nl 0 0]):=by
 unfold JR
 refine Zt hn rfl ?_ Qe Qe (by intro q;cases q)
 apply Qd ER
 ·walk_at "body"
 ·exact rfl
theorem Ee (hn:1≤n)(hm:h[l]?=some (YC i g))(tn:g.to=none)(s:Y0 h l (YC i {g with to:=some t}) h'):Qb ns n 51 [.loc l,.int (t:Int)] h=some (.none,h'):=by
 refine q0 ?_;intro Q;obtain⟨num,gn,ws,lo,gl,wl,fr,to⟩:=g
 dsimp only at tn
 subst tn
 have hm':=hm
 unfold YC toV at hm
 dsimp only at hm
 have e2:h'[l]?=some (YC i {num:=num,nm:=gn,ws:=ws,lo:=lo,nl:=gl,wl:=wl,fr:=fr,to:=some t}):=by
  unfold Y0 at s
  rewrite [←s]
  exact List.getElem?_set_self (Qc hm)
 refine Zt hn rfl ?_ hm' e2 (by intro q;unfold YC toV at q;simp at q)
 unfold YC toV at s
 dsimp only at s
 apply Qd QbE
 ·walk_at "body"
 ·exact rfl
theorem Tk (hn:1≤n):Qb ns n 55 [.loc h.length,.sym nm] (h++[.ins 8 []])=some (.none,h++[.ins 8 [(30,.sym nm),(47,.loc (h++[AO.ins 8 [(30,.sym nm)]]).length)]]++[.lst []]):=by
 refine Zt hn rfl ?_ Qe (Qf Qe) (by intro q;cases q)
 apply Qd Qa7
 ·walk_at "body"
 ·exact rfl
end
end
section
section
variable {ns:List Int} {n l nm w w':Nat} {h:H} {ws:List Nat}
theorem XS (hn:2≤n)(hl:h[l]?=some (.lst [.sym w])):Qb ns n 71 [.sym nm,.loc l] h=some (Ql nm [w],h):=by
 have e9:∀h,eqV h EQ (.sym w) (.sym 9)=some (Nat.beq w 9):=fun Z=>rfl
 clear e9;cases q:Nat.beq w 9 with
 |true=>
  have:=Nat.eq_of_beq_eq_true q
  subst this
  apply L_v
  ·omega
  ·rfl
  ·apply Qd PS
   ·walk_at "body"
   ·exact rfl
  ·walk_at "ext"
  ·exact Y4
 |false=>
  apply L_v
  ·omega
  ·rfl
  ·apply Qd PS
   ·walk_at "body"
   ·exact rfl
  ·walk_at "ext"
  ·exact Y4
theorem EH (hn:2≤n)(hl:h[l]?=some (.lst [.sym w,.sym w'])):Qb ns n 71 [.sym nm,.loc l] h=some (Ql nm [w,w'],h):=by
 cases q:Nat.beq w 9<;>cases q':Nat.beq w' 9
 all_goals
  try (have:=Nat.eq_of_beq_eq_true q;subst this)
  try (have:=Nat.eq_of_beq_eq_true q';subst this)
 ·apply L_v
  ·omega
  ·rfl
  ·apply Qd PS
   ·walk_at "body"
   ·exact rfl
  ·walk_at "ext"
  ·exact Y4
 ·apply L_v
  ·omega
  ·rfl
  ·apply Qd PS
   ·walk_at "body"
   ·exact rfl
  ·walk_at "ext"
  ·exact Y4
 ·apply L_v
  ·omega
  ·rfl
  ·apply Qd PS
   ·walk_at "body"
   ·exact rfl
  ·walk_at "ext"
  ·exact Y4
 ·apply L_v
  ·omega
  ·rfl
  ·apply Qd PS
   ·walk_at "body"
   ·exact rfl
  ·walk_at "ext"
  ·exact Y4
theorem KL (hn:2≤n)(hl:h[l]?=some (.lst (QU ws)))(hw:L12 ws):Qb ns n 71 [.sym nm,.loc l] h=some (Ql nm ws,h):=by
 refine q1 ws ?_;intro Q;rcases hw with ⟨w,rfl⟩|⟨w,w',rfl⟩
 ·exact XS hn hl
 ·exact EH hn hl
end
end
section
section
variable {C:CT} {ns:List Int} {ρ:Lc} {h h₁ h₂ h₃ h₄:H} {a b e o i:EX} {v w k p q:PV} {m l l' c c':Nat} {ds:List (PV×PV)} {r:Option PV} {fs fs' gs gs':List (Nat×PV)}
theorem IK {x:PV}{r:List (PV×PV)}{b:Bool}(q:keyEq x k=some b):QP k ((x,w)::r)=bif b then some (some w)else QP k r:=by
 show(match keyEq x k with|some true=>some (some w)|some false=>QP k r|none=>none)=_
 rw[q];cases b<;>rfl
theorem Kg {x:PV}{r:List (PV×PV)}{b:Bool}(q:keyEq x k=some b):JG k v ((x,w)::r)=bif b then(x,v)::r else(x,w)::JG k v r:=by
 show(match keyEq x k with|some true=>(x,v)::r|_=>(x,w)::JG k v r)=_
 rw[q];cases b<;>rfl
theorem Zl:∀{ds:List (PV×PV)},QP k ds=some none→JG k v ds=ds++[(k,v)]
 |[],_=>rfl
 |(x,w)::r,e=>by
  obtain⟨b,q,e⟩:=Y6 e
  rw[Kg q]
  cases b with
  |true=>exact fo e
  |false=>exact congrArg ((x,w)::·) (Zl (ds:=r) e)
theorem BV:∀{ds:List (PV×PV)},QP k ds=some none→QP k (ds++[(p,v)])=QP k [(p,v)]
 |[],_=>rfl
 |(x,w)::r,e=>by
  obtain⟨b,q,e⟩:=Y6 e
  show QP k ((x,w)::(r++[(p,v)]))=_
  rw[IK q]
  cases b with
  |true=>exact fo e
  |false=>exact BV (ds:=r) e
theorem Uh:∀{ds:List (PV×PV)},QP k ds=some (some w)→QP k (ds++[(p,v)])=some (some w)
 |[],e=>fo (Option.some.inj e)
 |(x,y)::r,e=>by
  obtain⟨b,q,e⟩:=Y6 e
  show QP k ((x,y)::(r++[(p,v)]))=_
  rw[IK q]
  cases b with
  |true=>exact congrArg some (Eq.symm e)
  |false=>exact Uh (ds:=r) e
theorem RA (e1:e C ns ρ h=some (v,h₁))(e2:o C ns ρ h₁=some (.loc m,h₂))(e3:i C ns ρ h₂=some (k,h₃))(e4:h₃[m]?=some (.dct ds))(k1:ZT k=true)(k2:QP k ds=some r)(k3:QG ds=true)(s:Y0 h₃ m (.dct (JG k v ds)) h₄):BE o i e C ns ρ h=some ((.nxt,ρ),h₄):=by
 refine Qv e1 (Qv e2 (Qv e3 ?_))
 have:Be (.loc m) k v h₃=some h₄:=WV (N4 e4) ((Jj e4).trans (gdT (by rw[k1,k3];rfl) (by rw[k2,←s];rfl)))
 rw[this]
theorem L7 {x y:Nat}{k1 k2:Nat}(e1:e C ns ρ h=some (.tup [v,w],h₁))(ga:Ya ρ x=.loc l)(gb:Ya ρ y=.loc l')(e3:h₁[l]?=some (.ins c fs))(e4:(Nat.ble fs.length 30&&ZV c k1)=true)(q:Ba k1 v fs=fs')(s:Y0 h₁ l (.ins c fs') h₂)
  (e5:h₂[l']?=some (.ins c' gs)) (e6:(Nat.ble gs.length 30&&ZV c' k2)=true) (q':Ba k2 w gs=gs') (s':Y0 h₂ l' (.ins c' gs') h₃):Hr x k1 y k2 e C ns ρ h=some ((.nxt,ρ),h₃):=by
 refine Qv e1 ?_
 have a1:Ji (.loc l) k1 v h₁=some h₂:=(By e3).trans (gdT e4 (by rw[q,←s];rfl))
 have a2:Ji (.loc l') k2 w h₂=some h₃:=(By e5).trans (gdT e6 (by rw[q',←s'];rfl))
 show(Ji (Ya ρ x) k1 v h₁).bind _=_
 rw[ga,gb,a1]
 show(Ji (.loc l') k2 w h₂).map _=_
 rw[a2];rfl
theorem QY {a b:Nat}{o o':AO}(e1:h[a]?=some o)(e2:h[b]?=some o')(ne:o≠o'):a≠b:=fun e=>by
 subst e
 rw[e1]at e2
 exact ne (Option.some.inj e2)
end
def SZ (h:H)(ds:List (PV×PV))(nm:Nat)(c:List PV):Option (Nat×Nat)→Prop
 |none=>QP (.sym nm) ds=some none∧c=[]
 |some p=>QP (.sym nm) ds=some (some (.loc p.1))∧h[p.1]?=some (.ins 8 [(30,.sym nm),(47,.loc p.2)])∧h[p.2]?=some (.lst c)
structure TB (h:H) (tb:Nat→Option (Nat×Nat)) (con:Nat→List PV) (N:Nat):Prop where
 d:∃ds,h[33]?=some (.dct ds)∧ds.length≤N∧∀nm,Nm nm→SZ h ds nm (con nm) (tb nm)
 lo:∀nm p,Nm nm→tb nm=some p→36≤p.1∧36≤p.2
 dj:∀p q,tb 15=some p→tb 16=some q→p.2≠q.2
def Fk (tb:Nat→Option (Nat×Nat))(l:Nat):Prop:=l=33∨∃nm p,Nm nm∧tb nm=some p∧(l=p.1∨l=p.2)
section
variable {h h':H} {tb tb':Nat→Option (Nat×Nat)} {con:Nat→List PV} {N nm W:Nat}
theorem SZ.keep {ds:List (PV×PV)}{c:List PV}{o:Option (Nat×Nat)}(T:SZ h ds nm c o)(f:∀p,o=some p→h'[p.1]?=h[p.1]?∧h'[p.2]?=h[p.2]?):SZ h' ds nm c o:=by
 cases o with
 |none=>exact T
 |some p=>
  obtain⟨a,b,c⟩:=T
  obtain⟨f1,f2⟩:=f p rfl
  exact⟨a,f1.trans b,f2.trans c⟩
theorem TB.keep (B:TB h tb con N)(f:∀l,Fk tb l→h'[l]?=h[l]?):TB h' tb con N:=by
 obtain⟨⟨ds,a,b,c⟩,lo,dj⟩:=B
 exact⟨⟨ds,(f 33 (Or.inl rfl)).trans a,b,fun nm hn=>(c nm hn).keep fun p e=>⟨f _ (Or.inr ⟨nm,p,hn,e,Or.inl rfl⟩),f _ (Or.inr ⟨nm,p,hn,e,Or.inr rfl⟩)⟩⟩,lo,dj⟩
theorem TB.lt (B:TB h tb con N){l:Nat}(o:Fk tb l):l<h.length:=by
 obtain⟨⟨ds,a,b,c⟩,lo,dj⟩:=B
 rcases o with rfl|⟨nm,p,hn,e,k⟩
 ·exact Qc a
 ·have:=c nm hn
  simp only[e]at this
  obtain⟨_,q1,q2⟩:=this
  rcases k with rfl|rfl
  ·exact Qc q1
  ·exact Qc q2
theorem TB.le (B:TB h tb con N){M:Nat}(k:N≤M):TB h tb con M:=by
 obtain⟨⟨ds,a,b,c⟩,lo,dj⟩:=B
 exact⟨⟨ds,a,by omega,c⟩,lo,dj⟩
end
end
section
section
variable {ns:List Int} {n:Nat} {h h':H} {tb tb':Nat→Option (Nat×Nat)} {con:Nat→List PV} {N nm W:Nat} {w:Int}
theorem Nm.or {a b:Nat}(ha:Nm a)(hb:Nm b)(ne:a≠b):(a=15∧b=16)∨(a=16∧b=15):=by
 rcases ha with rfl|rfl<;>rcases hb with rfl|rfl<;>simp at*
theorem Su (hn:2≤n)(ht:h[32]?=some (.ins 9 [(4,.loc 1),(21,.loc 33),(50,.loc 34),(51,.int w)]))(B:TB h tb con N)(hm:Nm nm)(hN:N≤1000)(hl:36≤h.length):
  ∃tl ll h' tb',Qb ns n 59 [.loc 32,.sym nm] h=some (.loc tl,h')∧TB h' tb' con (N+1)∧tb' nm=some (tl,ll)∧(∀l,l<h.length→l≠33→h'[l]?=h[l]?)∧h.length≤h'.length∧(∀l,Fk tb' l→Fk tb l∨h.length≤l):=by
 refine q1 nm ?_;intro Q;obtain⟨⟨ds,hd,dl,q⟩,lo,dj⟩:=id B
 have shd:QG ds=true:=Nat.ble_eq_true_of_le (Nat.le_trans dl (Nat.le_trans hN (by decide)))
 cases e:tb nm with
 |some p=>
  have c:=q nm hm
  simp only[e]at c
  obtain⟨c1,c2,c3⟩:=c
  refine⟨p.1,p.2,h,tb,?_,B.le (by exact o58),e,fun Z Z Z=>rfl,Nat.le_refl _,fun l o=>Or.inl o⟩
  apply L_v
  ·omega
  ·rfl
  ·apply Qd CG
   ·walk_at "body"
   ·exact rfl
  ·walk_at "ext"
  ·exact Ui (Qc c2)
 |none=>
  have c:=q nm hm
  clear hm;rw[e]at c
  clear e;obtain⟨c1,c2⟩:=c
  obtain⟨h1,r1,a1,b1,l1,x1⟩:=QC hd (.dct (JG (.sym nm) (.loc h.length) ds))
  have t1:h1[32]?=_:=(b1 32 (by decide)).trans ht
  have f1:QP (.sym nm) (JG (.sym nm) (.loc h.length) ds)=some (some (.loc h.length)):=by
   rewrite [Zl c1,BV c1]
   show(match some (Nat.beq nm nm)with|some true=>_|some false=>_|none=>_)=_
   rw[Nat.beq_refl]
  have q1:(h1++[AO.ins 8 [(30,.sym nm),(47,.loc (h++[AO.ins 8 [(30,.sym nm)]]).length)]]).length=h.length+1:=by simp[l1]
  have q2:(h++[AO.ins 8 [(30,.sym nm)]]).length=h.length+1:=by simp
  have g1:(h1++[AO.ins 8 [(30,.sym nm),(47,.loc (h++[AO.ins 8 [(30,.sym nm)]]).length)]]++[.lst []])[h.length]?=some (.ins 8 [(30,.sym nm),(47,.loc (h.length+1))]):=by
   rewrite [q2,List.getElem?_append_left (by simp only[List.length_append];simp;exact o228 l1),←l1]
   exact Qe
  have g2:(h1++[AO.ins 8 [(30,.sym nm),(47,.loc (h++[AO.ins 8 [(30,.sym nm)]]).length)]]++[.lst []])[h.length+1]?=some (.lst []):=by
   rw[←q1]
   exact Qe
  have old:∀l,l<h.length→(h1++[AO.ins 8 [(30,.sym nm),(47,.loc (h++[AO.ins 8 [(30,.sym nm)]]).length)]]++[.lst []])[l]?=h1[l]?:=fun l hl=>by
   rw[List.getElem?_append_left (by rw[q1];exact o229 hl l1 q1 q2),List.getElem?_append_left (by exact o230 hl l1 q1 q2)]
  refine⟨h.length,h.length+1,h1++[.ins 8 [(30,.sym nm),(47,.loc (h++[AO.ins 8 [(30,.sym nm)]]).length)]]++[.lst []],fun k=>if k=nm then some (h.length,h.length+1)else tb k,?_,⟨⟨_,(old 33 (by omega)).trans a1,?_,?_⟩,?_,?_⟩,if_pos rfl,?_,?_,?_⟩
  ·refine Zt (by omega) rfl ?_ hd ((old 33 (by omega)).trans a1) ?_
   ·apply Qd CG
    ·walk_at "body"
    ·exact rfl
   ·intro k
    rw[Zl c1]at k
    have:=congrArg (fun o=>match o with|AO.dct l=>l.length|_=>0) k
    simp at this
  ·rw[Zl c1,List.length_append]
   simp
   omega
  ·intro k hk
   by_cases z:k=nm
   ·subst z
    rw[if_pos rfl]
    rw[c2]
    exact⟨f1,g1,g2⟩
   ·rewrite [if_neg z,Zl c1]
    have:=q k hk
    have kb:=Yo (Ne.symm z)
    cases y:tb k with
    |none=>
     rw[y]at this
     refine⟨?_,this.2⟩
     rw[BV this.1]
     show(match some (Nat.beq nm k)with|some true=>_|some false=>_|none=>_)=_
     rw[kb]
     rfl
    |some p=>
     simp only[y]at this
     obtain⟨y1,y2,y3⟩:=this
     refine⟨Uh y1,?_,?_⟩
     ·rewrite [old _ (Qc y2),b1 _ (QY y2 hd (by simp))]
      exact y2
     ·rw[old _ (Qc y3),b1 _ (QY y3 hd (by simp))]
      exact y3
  ·intro k p hk y
   by_cases z:k=nm
   ·subst z
    rewrite [if_pos rfl]at y
    cases y
    exact⟨by show 36≤h.length;omega,by show 36≤h.length+1;exact o231 hl l1 q1 q2⟩
   ·rw[if_neg z]at y
    exact lo k p hk y
  ·intro p r y z
   have new:∀(k:Nat) (p:Nat×Nat),Nm k→tb k=some p→p.2<h.length:=fun k p hk y=>B.lt (Or.inr ⟨k,p,hk,y,Or.inr rfl⟩)
   by_cases u:15=nm
   ·rw[if_pos u]at y
    rw[if_neg (by exact o232 u)]at z
    cases y
    have:=new 16 r (Or.inr rfl) z
    show h.length+1≠r.2
    exact o233 this l1 q1 q2
   ·rw[if_neg u]at y
    have:=new 15 p (Or.inl rfl) y
    by_cases v:16=nm
    ·rw[if_pos v]at z
     cases z
     show p.2≠h.length+1
     exact o234 this l1 q1 q2
    ·rw[if_neg v]at z
     exact dj p r y z
  ·intro l hl ne
   simp only[old l hl,b1 l ne]
  ·simp[l1]
  ·rintro l (rfl|⟨k,p,hk,y,z⟩)
   ·exact Or.inl (Or.inl rfl)
   ·dsimp only at y
    by_cases u:k=nm
    ·rw[if_pos u]at y
     cases y
     right
     rcases z with rfl|rfl
     ·exact Nat.le_refl _
     ·exact Nat.le_succ _
    ·rw[if_neg u]at y
     exact Or.inl (Or.inr ⟨k,p,hk,y,z⟩)
end
end
section
def stk (ws:List Nat)(t:Nat)(g:Gm):Gm:=if g.to.isNone&&eqW g.ws ws then{g with to:=some t}else g
theorem Km {ws:List Nat}{t:Nat}{g:Gm}:(stk ws t g).lo=g.lo:=by unfold stk;split<;>rfl
theorem RC {ws:List Nat}{t:Nat}{g:Gm}:(stk ws t g).num=g.num:=by unfold stk;split<;>rfl
theorem VS {ws:List Nat}{t:Nat}{g:Gm}:(stk ws t g).nm=g.nm:=by unfold stk;split<;>rfl
theorem X5 {ws:List Nat}{t:Nat}{g:Gm}:(stk ws t g).ws=g.ws:=by unfold stk;split<;>rfl
theorem Ey {ws:List Nat}{t:Nat}{g:Gm}:(stk ws t g).wl=g.wl:=by unfold stk;split<;>rfl
theorem Ca {ws:List Nat}{t:Nat}{g:Gm}:(stk ws t g).fr=g.fr:=by unfold stk;split<;>rfl
def ID:List SX:=[(sIf (Yk [(tE (eIs (Qk (Qa 3) 46) QT)),(tE (Qn 20 [(Qa 2),(Qk (Qa 3) 23),(Qk (Qa 1) 23)]))]) [(sExp (Qx (Qa 3) 48 [(Qk (Qa 1) 24)]))] [])]
theorem Sc {h:H}{l k:Nat}{E:List Gm}(hl:h[l]?=some (.lst (QQ E))):YQ h k (.lst l)=some (if k<E.length then some ((QQ E).getD k .unb)else none):=by
 have len:(QQ E).length=E.length:=List.length_map _
 rw[YJ hl]
 split
 ·rename_i c
  rewrite [List.getElem?_eq_getElem (by rw[len];exact c),List.getD_eq_getElem?_getD,List.getElem?_eq_getElem (by rw[len];exact c)]
  rfl
 ·rename_i c
  rw[List.getElem?_eq_none (by rw[len];exact o45 c)]
theorem KQ {k:Nat}{E:List Gm}{g:Gm}(e:E[k]?=some g):(QQ E).getD k .unb=.loc g.lo:=by
 rw[List.getD_eq_getElem?_getD]
 unfold QQ
 rw[List.getElem?_map,e]
 rfl
section
variable {ns:List Int} {n:Nat} {h h':H} {tl ll m nm nl i t:Nat} {ws:List Nat} {E:List Gm} {x:Int}
theorem XY (hn:12≤n)(K:KI h)(htl:h[tl]?=some (.ins 8 [(30,.sym nm),(47,.loc ll)]))(hll:h[ll]?=some (.lst (QQ E)))(El:E.length≤45)(nd:(E.map (·.num)).Nodup)
  (hE:∀g∈E,g.nm=nm∧L12 g.ws∧Wds g.ws∧36≤g.lo∧h[g.lo]?=some (YC g.num g)) (hw:L12 ws) (dw:Wds ws) (hm:h[m]?=some (JR nm (Ql nm ws) nl x (t:Int))) (me:∀g∈E,m≠g.lo) (lm:36≤ll):
  ∃h',Qb ns n 56 [.loc tl,.loc m,.loc 1] h=some (.none,h')∧h'.length=h.length∧(∀l,l≠ll→(∀g∈E,l≠g.lo)→h'[l]?=h[l]?)∧h'[ll]?=some (.lst (QQ E++[.loc m]))∧∀g∈E,h'[g.lo]?=some (YC g.num (stk ws t g)):=by
 refine q0 ?_;intro Q
 have dis:∀(j k:Nat) (a b:Gm),E[j]?=some a→E[k]?=some b→j≠k→a.lo≠b.lo:=by
  intro j k a b ea eb ne q
  have qa:=(hE a (List.mem_of_getElem? ea)).2.2.2.2
  have qb:=(hE b (List.mem_of_getElem? eb)).2.2.2.2
  rw[q,qb]at qa
  have:YC b.num b=YC a.num a:=Option.some.inj qa
  unfold YC at this
  simp at this
  have l1:j<(E.map (·.num)).length:=by rw[List.length_map];exact Qc ea
  refine ne ((List.getElem?_inj l1 nd).mp ?_)
  simp only[List.getElem?_map,List.getElem?_map,ea,eb]
  exact congrArg some (show a.num=b.num by have:=this.1;exact o235 (by assumption))
 have H:=Q4 (t:=.one 3) (body:=QN ID) (src:=.lst ll) (C:=Qb ns (n - 1)) (ns:=ns) (K:=E.length) (items:=fun k=>(QQ E).getD k .unb)
  (fun k ρ h'=>(∃x,ρ=[.loc tl,.loc m,.loc 1,x])∧h'.length=h.length∧(∀l,(∀g∈E,l≠g.lo)→h'[l]?=h[l]?)∧∀(j:Nat) (g:Gm),E[j]?=some g→h'[g.lo]?=some (YC g.num (if j<k then stk ws t g else g)))
  (fun v h'=>False)
  (by
   rintro k ρ h' ⟨_,_,f,_⟩
   exact Sc ((f ll fun g hg=>QY hll (hE g hg).2.2.2.2 (by unfold YC;simp)).trans hll))
  (by
   intro k ρ h' lt hI;obtain⟨⟨y,rfl⟩,len,f,o⟩:=hI
   have eg:=List.getElem?_eq_getElem lt
   generalize E[k]=g at eg
   clear lt;have mg:g∈E:=List.mem_of_getElem? eg
   rw[KQ eg]
   refine⟨[.loc tl,.loc m,.loc 1,.loc g.lo],rfl,?_⟩
   refine q0 ?_;intro Q;obtain⟨gn,gw,gd,gl,_⟩:=hE g mg
   have em:=o k g eg
   rw[if_neg (Nat.lt_irrefl _)]at em
   have em':=em
   unfold YC at em
   rw[gn]at em
   have hm':h'[m]?=_:=(f m me).trans hm
   unfold JR at hm'
   have K':KI h':=K.same fun k hk=>f k fun g hg=>by have:=(hE g hg).2.2.2.1;omega
   have sm:=EP (ns:=ns) (n:=n - 1) (m:=nm) (by omega) K' gw hw gd dw
   have step:∀g':Gm,g'=stk ws t g→∀h2:H,(∀l,l≠g.lo→h2[l]?=h'[l]?)→h2.length=h'.length→h2[g.lo]?=some (YC g.num g')→((∃x,[PV.loc tl,.loc m,.loc 1,.loc g.lo]=[.loc tl,.loc m,.loc 1,x])∧h2.length=h.length∧(∀l,(∀g∈E,l≠g.lo)→h2[l]?=h[l]?)∧∀(j:Nat) (g:Gm),E[j]?=some g→h2[g.lo]?=some (YC g.num (if j<k+1 then stk ws t g else g))):=by
    rintro g' rfl h2 c d e
    refine⟨⟨_,rfl⟩,d.trans len,fun l hl=>(c l (hl g mg)).trans (f l hl),fun j a ea=>?_⟩
    by_cases q:j=k
    ·subst q
     rw[eg]at ea
     cases ea
     rw[if_pos (Nat.lt_succ_self _)]
     exact e
    ·simp only[c _ (dis j k a g ea eg q),o j a ea]
     by_cases z:j<k
     ·rw[if_pos z,if_pos (by exact o59 z)]
     ·rw[if_neg z,if_neg (by exact o60 z q)]
   cases et:g.to with
   |some t'=>
    refine q0 ?_;intro Q;rw[et]at em
    unfold toV at em
    refine⟨.nxt,[.loc tl,.loc m,.loc 1,.loc g.lo],h',?_,Or.inr ⟨Or.inl rfl,step g (by unfold stk;rw[et];rfl) h' (fun Z Z=>rfl) rfl em'⟩⟩
    unfold ID
    walk_at "ss"
   |none=>
    simp only[et]at em
    unfold toV at em
    cases ew:eqW g.ws ws with
    |false=>
     rw[ew]at sm
     refine⟨.nxt,[.loc tl,.loc m,.loc 1,.loc g.lo],h',?_,Or.inr ⟨Or.inl rfl,step g (by unfold stk;rw[ew,Bool.and_false];rfl) h' (fun Z Z=>rfl) rfl em'⟩⟩
     unfold ID
     walk_at "ss"
    |true=>
     rw[ew]at sm
     obtain⟨h2,r2,a2,b2,l2,_⟩:=QC em' (YC g.num {g with to:=some t})
     have me:=Ee (ns:=ns) (n:=n - 1) (t:=t) (by omega) em' et r2
     refine⟨.nxt,[.loc tl,.loc m,.loc 1,.loc g.lo],h2,?_,Or.inr ⟨Or.inl rfl,step {g with to:=some t} (by unfold stk;simp only[ew,et];rfl) h2 b2 l2 a2⟩⟩
     unfold ID
     walk_at "ss")
  E.length 0 64 [.loc tl,.loc m,.loc 1,.unb] h (by exact o30) (by exact o86 El) ⟨⟨_,rfl⟩,rfl,fun Z Z=>rfl,fun j g e=>by rw[if_neg (Nat.not_lt_zero _)];exact(hE g (List.mem_of_getElem? e)).2.2.2.2⟩
 obtain⟨fl,ρ',h1,e,r⟩:=H
 rcases r with ⟨v,rfl,F⟩|⟨rfl,⟨y,rfl⟩,len,f,o⟩
 ·exact F.elim
 have nl:∀g∈E,ll≠g.lo:=fun g hg=>QY hll (hE g hg).2.2.2.2 (by unfold YC;simp)
 have nt:∀g∈E,tl≠g.lo:=fun g hg=>QY htl (hE g hg).2.2.2.2 (by unfold YC;simp)
 have hll1:h1[ll]?=some (.lst (QQ E)):=(f ll nl).trans hll
 have htl1:h1[tl]?=_:=(f tl nt).trans htl
 obtain⟨h2,r2,a2,b2,l2,_⟩:=QC hll1 (.lst (QQ E++[.loc m]))
 have sh:QG (QQ E)=true:=Yu (by unfold QQ;rw[List.length_map];omega)
 refine⟨h2,?_,l2.trans len,fun l hl hg=>(b2 l hl).trans (f l hg),a2,fun g hg=>?_⟩
 ·refine Zt (by omega) rfl ?_ hll a2 (by intro q;have:=congrArg (fun o=>match o with|AO.lst l=>l.length|_=>0) q;simp at this)
  apply Qd QaL
  ·apply Qt
   ·apply YG
    ·walk_at "i"
    ·exact e
   apply Q2
   walk_at "ss"
  ·exact rfl
 ·obtain⟨j,ej⟩:=List.mem_iff_getElem?.mp hg
  rw[b2 _ (Ne.symm (nl g hg)),o j g ej,if_pos (Qc ej)]
end
end
section
structure TO (h:H) (gs:List Gm) (W:Nat) (tb:Nat→Option (Nat×Nat)):Prop where
 k:KI h
 t:h[32]?=some (.ins 9 [(4,.loc 1),(21,.loc 33),(50,.loc 34),(51,.int (W:Int))])
 b:TB h tb (fun nm=>QQ (ofN nm gs)) gs.length
 a:h[34]?=some (.lst (QQ gs))
 m:∀g∈gs,36≤g.lo∧h[g.lo]?=some (YC g.num g)
 nu:∀(i:Nat) (g:Gm),gs[i]?=some g→g.num=i
 len:gs.length≤45
 wf:∀g∈gs,Nm g.nm∧L12 g.ws∧Wds g.ws∧g.fr≤W∧∀t,g.to=some t→t≤W
 nd:gs.Pairwise fun a b=>∀w,a.nm=b.nm→liveB w a=true→liveB w b=true→a.ws≠b.ws
def own (tb:Nat→Option (Nat×Nat))(gs:List Gm)(l:Nat):Prop:=l=32∨l=34∨Fk tb l∨∃g∈gs,l=g.lo
section
variable {h h':H} {gs:List Gm} {W nm t:Nat} {tb tb':Nat→Option (Nat×Nat)} {ws:List Nat} {g:Gm}
theorem TO.ts (T:TO h gs W tb):TS h gs W:=by
 obtain⟨ds,d,_,q⟩:=T.b.d
 refine⟨T.k,T.t,⟨ds,d,fun nm hn=>?_⟩,T.a,fun i g e=>?_,T.nu,by have:=T.len;omega,fun g hg=>?_,T.nd⟩
 ·refine q0 ?_;intro Q;have:=q nm hn
  cases e:tb nm with
  |none=>
   rw[e]at this
   refine Or.inl ⟨this.1,?_⟩
   have l0:=congrArg List.length this.2
   exact List.length_eq_zero_iff.mp (by rw[show(QQ (ofN nm gs)).length=(ofN nm gs).length from List.length_map _]at l0;exact l0)
  |some p=>
   simp only[e]at this
   exact Or.inr ⟨p.1,p.2,this.1,this.2.1,this.2.2⟩
 ·rw[←T.nu i g e]
  exact(T.m g (List.mem_of_getElem? e)).2
 ·have:=T.wf g hg
  exact⟨this.1,this.2.1,this.2.2.1,this.2.2.2.1⟩
theorem TO.lt (T:TO h gs W tb){l:Nat}(o:own tb gs l):l<h.length:=by
 rcases o with rfl|rfl|o|⟨g,hg,rfl⟩
 ·exact Qc T.t
 ·exact Qc T.a
 ·exact T.b.lt o
 ·exact Qc (T.m g hg).2
theorem TO.keep (T:TO h gs W tb)(K:KI h')(f:∀l,own tb gs l→h'[l]?=h[l]?):TO h' gs W tb:=
 ⟨K,(f 32 (Or.inl rfl)).trans T.t,T.b.keep fun l o=>f l (Or.inr (Or.inr (Or.inl o))),(f 34 (Or.inr (Or.inl rfl))).trans T.a,fun g hg=>⟨(T.m g hg).1,(f g.lo (Or.inr (Or.inr (Or.inr ⟨g,hg,rfl⟩)))).trans (T.m g hg).2⟩,T.nu,T.len,T.wf,T.nd⟩
theorem TO.ge (T:TO h gs W tb){l:Nat}(o:own tb gs l):32≤l:=by
 rcases o with rfl|rfl|(rfl|⟨nm,p,hn,e,k⟩)|⟨g,hg,rfl⟩
 ·omega
 ·omega
 ·omega
 ·have:=T.b.lo nm p hn e
  exact o236 this k
 ·have:=(T.m g hg).1
  omega
theorem TV (nu:∀(i:Nat) (g:Gm),gs[i]?=some g→g.num=i):(gs.map (·.num)).Nodup:=by
 unfold List.Nodup
 rw[List.pairwise_map,List.pairwise_iff_getElem]
 intro i j hi hj lt q
 have a:=nu i _ (List.getElem?_eq_getElem hi)
 have b:=nu j _ (List.getElem?_eq_getElem hj)
 exact o237 hi hj lt q a b
def Yi (nm:Nat)(ws:List Nat)(t:Nat)(g:Gm):Gm:=if Nat.beq g.nm nm then stk ws t g else g
theorem Ie:(Yi nm ws t g).lo=g.lo:=by unfold Yi;split<;>first|exact Km|rfl
theorem Uk:(Yi nm ws t g).num=g.num:=by unfold Yi;split<;>first|exact RC|rfl
theorem JZ:(Yi nm ws t g).nm=g.nm:=by unfold Yi;split<;>first|exact VS|rfl
theorem J9:(Yi nm ws t g).ws=g.ws:=by unfold Yi;split<;>first|exact X5|rfl
theorem OL:(Yi nm ws t g).wl=g.wl:=by unfold Yi;split<;>first|exact Ey|rfl
theorem IY:(Yi nm ws t g).fr=g.fr:=by unfold Yi;split<;>first|exact Ca|rfl
theorem V7:(stk ws t g).to=g.to∨(g.to=none∧g.ws=ws∧(stk ws t g).to=some t):=by
 unfold stk
 split
 ·rename_i c
  simp only[Bool.and_eq_true]at c
  exact Or.inr ⟨Option.isNone_iff_eq_none.mp c.1,Q7.mp c.2,rfl⟩
 ·exact Or.inl rfl
theorem ZP:(Yi nm ws t g).to=g.to∨(g.to=none∧g.nm=nm∧g.ws=ws∧(Yi nm ws t g).to=some t):=by
 unfold Yi
 split
 ·rename_i c
  rcases V7 (ws:=ws) (t:=t) (g:=g)with e|⟨a,b,c'⟩
  ·exact Or.inl e
  ·exact Or.inr ⟨a,Nat.eq_of_beq_eq_true c,b,c'⟩
 ·exact Or.inl rfl
theorem DU (a:g.to=none)(b:g.nm=nm)(c:g.ws=ws):(Yi nm ws t g).to=some t:=by
 delta Yi stk
 rw[b,Nat.beq_refl,if_pos rfl,a,c,Q7.mpr rfl]
 rfl
theorem Jp {w:Nat}{g:Gm}:liveB w g=true↔g.fr≤w∧∀t,g.to=some t→w<t:=by
 unfold liveB
 rw[Bool.and_eq_true]
 constructor
 ·rintro ⟨a,b⟩
  refine⟨Nat.le_of_ble_eq_true a,fun t e=>?_⟩
  rw[e]at b
  exact Nat.le_of_ble_eq_true b
 ·rintro ⟨a,b⟩
  refine⟨Nat.ble_eq_true_of_le a,?_⟩
  cases e:g.to with
  |none=>rfl
  |some t=>exact Nat.ble_eq_true_of_le (b t e)
theorem WB {w:Nat}(l:liveB w (Yi nm ws t g)=true):liveB w g=true:=by
 rw[Jp]at l ⊢
 obtain⟨a,b⟩:=l
 rewrite [IY]at a
 refine⟨a,fun t' e=>?_⟩
 rcases ZP (nm:=nm) (ws:=ws) (t:=t) (g:=g)with q|⟨q,_⟩
 ·exact b t' (q.trans e)
 ·rw[q]at e;cases e
def Yy (nm:Nat)(ws:List Nat)(m nl wl W:Nat)(gs:List Gm):List Gm:=gs.map (Yi nm ws (W+1))++[⟨gs.length,nm,ws,m,nl,wl,W+1,none⟩]
theorem FS {m nl wl:Nat}:ofN nm (Yy nm ws m nl wl W gs)=(ofN nm gs).map (stk ws (W+1))++[⟨gs.length,nm,ws,m,nl,wl,W+1,none⟩]:=by
 unfold Yy ofN
 simp only[List.filter_append,List.filter_map]
 have e1:((fun g:Gm=>Nat.beq g.nm nm)∘Yi nm ws (W+1))=fun g=>Nat.beq g.nm nm:=by
  funext g
  show Nat.beq (Yi nm ws (W+1) g).nm nm=_
  rw[JZ]
 rw[e1]
 congr 1
 ·refine List.map_congr_left fun g hg=>?_
  have:=(List.mem_filter.mp hg).2
  unfold Yi
  rw[if_pos this]
 ·exact List.filter_cons_of_pos (p:=fun g:Gm=>Nat.beq g.nm nm) (Nat.beq_refl nm)
theorem PF {m nl wl k:Nat}(ne:k≠nm):ofN k (Yy nm ws m nl wl W gs)=ofN k gs:=by
 unfold Yy ofN
 rw[List.filter_append,List.filter_map]
 have e1:((fun g:Gm=>Nat.beq g.nm k)∘Yi nm ws (W+1))=fun g=>Nat.beq g.nm k:=by
  funext g
  show Nat.beq (Yi nm ws (W+1) g).nm k=_
  rw[JZ]
 rw[e1,List.filter_cons_of_neg (by show¬Nat.beq nm k=true;rw[Yo (Ne.symm ne)];simp),List.filter_nil,List.append_nil]
 conv=>rhs;rw[←List.map_id (List.filter _ gs)]
 refine List.map_congr_left fun g hg=>?_
 have:=Nat.eq_of_beq_eq_true (List.mem_filter.mp hg).2
 unfold Yi
 rw[if_neg (by rw[this,Yo ne];simp)]
 rfl
theorem KA {E:List Gm}:QQ (E.map (stk ws t))=QQ E:=by
 unfold QQ
 rw[List.map_map]
 refine List.map_congr_left fun g Z=>?_
 show PV.loc (stk ws t g).lo=_
 rw[Km]
theorem Lz {m nl wl:Nat}:QQ (Yy nm ws m nl wl W gs)=QQ gs++[.loc m]:=by
 unfold QQ Yy
 simp only[List.map_append,List.map_map]
 congr 1
 refine List.map_congr_left fun g Z=>?_
 show PV.loc (Yi nm ws (W+1) g).lo=_
 rw[Ie]
theorem Zi {m nl wl:Nat}{x:Gm}(hx:x∈Yy nm ws m nl wl W gs):(∃g∈gs,x=Yi nm ws (W+1) g)∨x=⟨gs.length,nm,ws,m,nl,wl,W+1,none⟩:=by
 unfold Yy at hx
 rcases List.mem_append.mp hx with q|q
 ·obtain⟨g,hg,e⟩:=List.mem_map.mp q
  exact Or.inl ⟨g,hg,e.symm⟩
 ·exact Or.inr (List.mem_singleton.mp q)
theorem Zv {m nl wl:Nat}:(Yy nm ws m nl wl W gs).length=gs.length+1:=by
 unfold Yy
 simp
theorem Iz {m nl wl:Nat}(nu:∀(i:Nat) (g:Gm),gs[i]?=some g→g.num=i)(i:Nat)(x:Gm)(e:(Yy nm ws m nl wl W gs)[i]?=some x):x.num=i:=by
 unfold Yy at e
 rcases Nat.lt_or_ge i gs.length with c|c
 ·rw[List.getElem?_append_left (by rw[List.length_map];exact c),List.getElem?_map]at e
  cases q:gs[i]? with
  |none=>rw[q]at e;cases e
  |some g=>
   rewrite [q]at e
   cases e
   rw[Uk]
   exact nu i g q
 ·rw[List.getElem?_append_right (by rw[List.length_map];exact c),List.length_map]at e
  cases q:i - gs.length with
  |zero=>
   rw[q]at e
   cases e
   show gs.length=i
   exact o238 q c
  |succ j=>
   rw[q]at e
   cases e
theorem Ig {m nl wl:Nat}(hN:Nm nm)(hw:L12 ws)(dw:Wds ws)(wf:∀g∈gs,Nm g.nm∧L12 g.ws∧Wds g.ws∧g.fr≤W∧∀t,g.to=some t→t≤W)(x:Gm)(hx:x∈Yy nm ws m nl wl W gs):Nm x.nm∧L12 x.ws∧Wds x.ws∧x.fr≤W+1∧∀t,x.to=some t→t≤W+1:=by
 refine q1 x ?_;intro Q;rcases Zi hx with ⟨g,hg,rfl⟩|rfl
 ·obtain⟨a,b,c,d,e⟩:=wf g hg
  refine⟨by rw[JZ];exact a,by rw[J9];exact b,by rw[J9];exact c,by rw[IY];exact o61 d,fun t q=>?_⟩
  rcases ZP (nm:=nm) (ws:=ws) (t:=W+1) (g:=g)with r|⟨_,_,_,r⟩
  ·have:=e t (r.symm.trans q)
   exact o61 this
  ·rw[r]at q
   cases q
   exact Nat.le_refl _
 ·exact⟨hN,hw,dw,Nat.le_refl _,fun t q=>by cases q⟩
theorem Pb {m nl wl:Nat}(wf:∀g∈gs,Nm g.nm∧L12 g.ws∧Wds g.ws∧g.fr≤W∧∀t,g.to=some t→t≤W)(nd:gs.Pairwise fun a b=>∀w,a.nm=b.nm→liveB w a=true→liveB w b=true→a.ws≠b.ws):
  (Yy nm ws m nl wl W gs).Pairwise fun a b=>∀w,a.nm=b.nm→liveB w a=true→liveB w b=true→a.ws≠b.ws:=by
 unfold Yy
 rw[List.pairwise_append]
 refine⟨?_,List.pairwise_singleton _ _,?_⟩
 ·rw[List.pairwise_map]
  refine nd.imp ?_
  intro a b q w e la lb
  simp only[JZ,JZ]at e
  rw[J9,J9]
  exact q w e (WB la) (WB lb)
 ·intro x hx y hy w e la lb
  obtain⟨g,hg,rfl⟩:=List.mem_map.mp hx
  cases List.mem_singleton.mp hy
  rw[J9]
  rw[JZ]at e
  intro q
  have lw:W+1≤w:=(Jp.mp lb).1
  have la2:=(Jp.mp la).2
  cases z:g.to with
  |none=>
   have:=la2 _ (DU z e q)
   exact o239 lw this
  |some t=>
   have tw:=(wf g hg).2.2.2.2 t z
   rcases ZP (nm:=nm) (ws:=ws) (t:=W+1) (g:=g)with r|⟨r,_⟩
   ·have:=la2 t (r.trans z)
    exact o240 lw this tw
   ·rw[r]at z;cases z
end
end
section
section
variable {ns:List Int} {n:Nat} {h h':H} {gs:List Gm} {W nm t m nl wl:Nat} {tb tb':Nat→Option (Nat×Nat)} {ws:List Nat} {g:Gm}
theorem C9 (hn:13≤n)(T:TO h gs W tb)(hm:h[m]?=some (JR nm (Ql nm ws) nl 0 0))(m36:36≤m)(no:¬own tb gs m)(hN:Nm nm)(hw:L12 ws)(dw:Wds ws)(gl:gs.length≤40)(wl:Nat):
  ∃h' tb',Qb ns n 60 [.loc 32,.loc m] h=some (.loc m,h')∧TO h' (Yy nm ws m nl wl W gs) (W+1) tb'∧(∀l,l<h.length→l≠m→¬own tb gs l→h'[l]?=h[l]?)∧h.length≤h'.length∧∀l,own tb' (Yy nm ws m nl wl W gs) l→own tb gs l∨l=m∨h.length≤l:=by
 refine q0 ?_;intro Q
 have ht:=T.t
 have ml:=Qc hm
 have m32:m≠32:=by exact o241 m36
 have m34:m≠34:=by exact o242 m36
 obtain⟨h1,r1,a1,b1,l1,_⟩:=QC ht (.ins 9 [(4,.loc 1),(21,.loc 33),(50,.loc 34),(51,.int ((W:Int)+1))])
 have hm1:h1[m]?=some (JR nm (Ql nm ws) nl 0 0):=(b1 m m32).trans hm
 have ha1:h1[34]?=some (.lst (QQ gs)):=(b1 34 (by decide)).trans T.a
 have lgs:(QQ gs).length=gs.length:=List.length_map _
 have shg:QG (QQ gs)=true:=Yu (by omega)
 obtain⟨h2,r2,a2,b2,l2,_⟩:=QC hm1 (JR nm (Ql nm ws) nl ((QQ gs).length:Nat) 0)
 obtain⟨h3,r3,a3,b3,l3,_⟩:=QC a2 (JR nm (Ql nm ws) nl ((QQ gs).length:Nat) ((W:Int)+1))
 have t3:h3[32]?=_:=(b3 32 (Ne.symm m32)).trans ((b2 32 (Ne.symm m32)).trans a1)
 have ha3:h3[34]?=some (.lst (QQ gs)):=(b3 34 (Ne.symm m34)).trans ((b2 34 (Ne.symm m34)).trans ha1)
 obtain⟨h4,r4,a4,b4,l4,_⟩:=QC ha3 (.lst (QQ gs++[.loc m]))
 have t4:h4[32]?=some (.ins 9 [(4,.loc 1),(21,.loc 33),(50,.loc 34),(51,.int ((W:Int)+1))]):=(b4 32 (by decide)).trans t3
 have hm4:h4[m]?=some (JR nm (Ql nm ws) nl ((QQ gs).length:Nat) ((W:Int)+1)):=(b4 m m34).trans a3
 have same4:∀l,l≠32→l≠m→l≠34→h4[l]?=h[l]?:=fun l x y z=>(b4 l z).trans ((b3 l y).trans ((b2 l y).trans (b1 l x)))
 have len4:h4.length=h.length:=l4.trans (l3.trans (l2.trans l1))
 have notm:∀l,own tb gs l→l≠m:=fun l o e=>no (e▸o)
 have B4:TB h4 tb (fun nm=>QQ (ofN nm gs)) gs.length:=T.b.keep fun l o=>by
  refine same4 l ?_ (notm l (Or.inr (Or.inr (Or.inl o)))) ?_
  ·rcases o with rfl|⟨k,p,hk,e,q⟩
   ·decide
   ·have:=T.b.lo k p hk e;exact o243 this q
  ·rcases o with rfl|⟨k,p,hk,e,q⟩
   ·decide
   ·have:=T.b.lo k p hk e;exact o244 this q
 have h36:36≤h.length:=by exact o245 m36 ml l1 l2 l3 l4
 obtain⟨tl,ll,h5,tb',c5,B5,e5,f5,l5,o5⟩:=Su (ns:=ns) (n:=n - 1) (by omega) t4 B4 hN (by omega) (by exact o246 h36 l1 l2 l3 l4)
 have K4:KI h4:=T.k.same fun k hk=>same4 k (by exact o247 hk) (by omega) (by exact o248 hk)
 have K5:KI h5:=K4.same fun k hk=>f5 k (by exact o249 m36 ml l1 l2 l3 l4 hk) (by exact o250 hk)
 have hm5:h5[m]?=some (JR nm (Ql nm ws) nl ((QQ gs).length:Nat) ((W:Int)+1)):=(f5 m (by exact o62 ml l1 l2 l3 l4) (by exact o251 m36)).trans hm4
 obtain⟨ds,d5,dl5,q5⟩:=B5.d
 have tk:=q5 nm hN
 rw[e5]at tk
 obtain⟨_,htl,hll⟩:=tk
 have lo5:=B5.lo nm _ hN e5
 have mem5:∀g∈gs,h5[g.lo]?=some (YC g.num g):=fun g hg=>by
  have:=T.m g hg
  have:=Qc this.2
  rw[f5 g.lo (by exact o62 this l1 l2 l3 l4) (by exact o252 (by assumption)),same4 g.lo (by exact o253 (by assumption)) (notm _ (Or.inr (Or.inr (Or.inr ⟨g,hg,rfl⟩)))) (by exact o254 (by assumption))]
  exact(T.m g hg).2
 have subE:∀g∈ofN nm gs,g∈gs∧g.nm=nm:=fun g hg=>⟨(List.mem_filter.mp hg).1,Nat.eq_of_beq_eq_true (List.mem_filter.mp hg).2⟩
 have ndE:((ofN nm gs).map (·.num)).Nodup:=List.Nodup.sublist (List.Sublist.map _ List.filter_sublist) (TV T.nu)
 have El:(ofN nm gs).length≤45:=Nat.le_trans (List.length_filter_le _ _) T.len
 have mnl:∀g∈gs,m≠g.lo:=fun g hg e=>no (Or.inr (Or.inr (Or.inr ⟨g,hg,e⟩)))
 obtain⟨h6,c6,l6,f6,a6,s6⟩:=XY (ns:=ns) (n:=n - 1) (t:=W+1) (ws:=ws) (by omega) K5 htl hll El ndE (fun g hg=>by
  obtain⟨x,y⟩:=subE g hg
  have w:=T.wf g x
  exact⟨y,w.2.1,w.2.2.1,(T.m g x).1,mem5 g x⟩) hw dw hm5 (fun g hg=>mnl g (subE g hg).1) lo5.2
 have c6':Qb ns (n - 1) 56 [.loc tl,.loc m,.loc 1] h5=some (.none,h6):=c6
 have t5:h5[32]?=some (.ins 9 [(4,.loc 1),(21,.loc 33),(50,.loc 34),(51,.int ((W:Int)+1))]):=(f5 32 (by exact o255 h36 l1 l2 l3 l4) (by decide)).trans t4
 have hlt:∀l (o:AO),h5[l]?=some o→(∀ps,o≠.lst ps)→l≠ll:=fun l o e ne=>QY e hll (ne _)
 have old6:∀l (o:AO),h5[l]?=some o→l≠ll→(∀g∈ofN nm gs,o≠YC g.num g)→h6[l]?=some o:=fun l o e n1 n2=>by
  rw[f6 l n1 fun g hg=>QY e (mem5 g (subE g hg).1) (n2 g hg)]
  exact e
 have t6:h6[32]?=some (.ins 9 [(4,.loc 1),(21,.loc 33),(50,.loc 34),(51,.int ((W:Int)+1))]):=old6 32 _ t5 (Nat.ne_of_lt (Nat.lt_of_lt_of_le (by decide) lo5.2)) (fun g Z=>by unfold YC;simp)
 have a5:h5[34]?=some (.lst (QQ gs++[.loc m])):=(f5 34 (by exact o257 h36 l1 l2 l3 l4) (by decide)).trans a4
 have a6':h6[34]?=some (.lst (QQ gs++[.loc m])):=old6 34 _ a5 (Nat.ne_of_lt (Nat.lt_of_lt_of_le (by decide) lo5.2)) (fun g Z=>by unfold YC;simp)
 have hm6:h6[m]?=some (JR nm (Ql nm ws) nl ((QQ gs).length:Nat) ((W:Int)+1)):=by
  rw[f6 m (hlt m _ hm5 (by intro ps;unfold JR;simp)) fun g hg=>mnl g (subE g hg).1]
  exact hm5
 have K6:KI h6:=K5.same fun k hk=>f6 k (by exact o259 lo5 hk) fun g hg=>by have:=(T.m g (subE g hg).1).1;omega
 refine⟨h6,tb',?_,⟨K6,t6,⟨⟨ds,?_,by rw[Zv];exact dl5,?_⟩,B5.lo,B5.dj⟩,by rw[Lz];exact a6',?_,Iz T.nu,by rw[Zv];exact o260 lgs gl,Ig hN hw dw T.wf,Pb T.wf T.nd⟩,?_,by exact o261 l1 l2 l3 l4 l5 l6,?_⟩
 ·refine Zt (by omega) rfl ?_ ht t6 (by intro q;simp at q;exact o262 q)
  unfold JR at*
  apply Qd Qao
  ·walk_at "body"
  ·exact rfl
 ·exact old6 33 _ d5 (hlt 33 _ d5 (by intro ps;simp)) (fun g Z=>by unfold YC;simp)
 ·intro k hk
  by_cases z:k=nm
  ·subst z
   rw[e5,FS]
   unfold QQ
   rw[List.map_append]
   have:=q5 k hk
   rw[e5]at this
   refine⟨this.1,old6 tl _ htl (hlt tl _ htl (by intro ps;simp)) (fun g Z=>by unfold YC;simp),?_⟩
   have ee:(List.map (stk ws (W+1)) (ofN k gs)).map (fun g=>PV.loc g.lo)=QQ (ofN k gs):=KA
   rw[ee]
   exact a6
  ·rw[PF z]
   have:=q5 k hk
   cases y:tb' k with
   |none=>rw[y]at this;exact this
   |some p=>
    rw[y]at this
    obtain⟨y1,y2,y3⟩:=this
    refine⟨y1,old6 p.1 _ y2 (hlt p.1 _ y2 (by intro ps;simp)) (fun g Z=>by unfold YC;simp),?_⟩
    refine old6 p.2 _ y3 ?_ (fun g Z=>by unfold YC;simp)
    rcases hk.or hN z with ⟨rfl,rfl⟩|⟨rfl,rfl⟩
    ·exact B5.dj _ _ y e5
    ·exact Ne.symm (B5.dj _ _ e5 y)
 ·intro x hx
  rcases Zi hx with ⟨g,hg,rfl⟩|rfl
  ·rw[Ie,Uk]
   refine⟨(T.m g hg).1,?_⟩
   by_cases z:g.nm=nm
   ·have mE:g∈ofN nm gs:=List.mem_filter.mpr ⟨hg,by rw[z];exact Nat.beq_refl _⟩
    unfold Yi
    rw[z,if_pos (Nat.beq_refl _)]
    exact s6 g mE
   ·unfold Yi
    rw[if_neg (by rw[Yo z];simp)]
    refine old6 g.lo _ (mem5 g hg) (hlt _ _ (mem5 g hg) (by intro ps;unfold YC;simp)) fun e he q=>z ?_
    unfold YC at q
    simp at q
    rw[q.2.1]
    exact(subE e he).2
  ·refine⟨m36,?_⟩
   rw[lgs]at hm6
   exact hm6
 ·intro l hl lm no'
  have nE:∀g∈ofN nm gs,l≠g.lo:=fun g hg e=>no' (Or.inr (Or.inr (Or.inr ⟨g,(subE g hg).1,e⟩)))
  have nll:l≠ll:=fun e=>by
   rcases o5 ll (Or.inr ⟨nm,_,hN,e5,Or.inr rfl⟩)with o|o
   ·exact no' (Or.inr (Or.inr (Or.inl (e▸o))))
   ·exact o263 l1 l2 l3 l4 hl e o
  rw[f6 l nll nE,f5 l (by exact o62 hl l1 l2 l3 l4) fun e=>no' (Or.inr (Or.inr (Or.inl (Or.inl e)))),same4 l (fun e=>no' (Or.inl e)) lm (fun e=>no' (Or.inr (Or.inl e)))]
 ·rintro l (rfl|rfl|o|⟨x,hx,rfl⟩)
  ·exact Or.inl (Or.inl rfl)
  ·exact Or.inl (Or.inr (Or.inl rfl))
  ·rcases o5 l o with q|q
   ·exact Or.inl (Or.inr (Or.inr (Or.inl q)))
   ·exact Or.inr (Or.inr (by exact o264 l4 q l3 l2 l1))
  ·rcases Zi hx with ⟨g,hg,rfl⟩|rfl
   ·rw[Ie]
    exact Or.inl (Or.inr (Or.inr (Or.inr ⟨g,hg,rfl⟩)))
   ·exact Or.inr (Or.inl rfl)
end
end
section
theorem Dl {h:H}(k:Nat):∀{ws vs:List Nat},ws.length=vs.length→Yq (eqV h (k+1)) (QU ws) (QU vs)=some (eqW ws vs)
 |[],[],_=>rfl
 |w::ws,v::vs,e=>by
  show(match eqV h (k+1) (.sym w) (.sym v)with|some a=>(match Yq (eqV h (k+1)) (QU ws) (QU vs)with|some b=>some (a&&b)|none=>none)|none=>none)=_
  rw[Dl k (ws:=ws) (vs:=vs) (by simpa using e)]
  rfl
theorem R7 {ws vs:List Nat}(ne:ws.length≠vs.length):eqW ws vs=false:=by
 cases q:eqW ws vs with
 |false=>rfl
 |true=>exact absurd (congrArg List.length (Q7.mp q)) ne
theorem L8 {h:H}{a b:Nat}{ws vs:List Nat}(k:Nat)(h1:h[a]?=some (.lst (QU ws)))(h2:h[b]?=some (.lst (QU vs))):eqV h (k+2) (.loc a) (.loc b)=some (eqW ws vs):=by
 rewrite [eqL h1 h2]
 have la:(QU ws).length=ws.length:=List.length_map _
 have lb:(QU vs).length=vs.length:=List.length_map _
 rw[la,lb]
 by_cases q:ws.length=vs.length
 ·rw[q,Nat.beq_refl]
  exact Dl k q
 ·simp only[Yo q,R7 q]
theorem KT {h:H}{a b x y:Nat}{ws vs:List Nat}(h1:h[a]?=some (.lst (QU ws)))(h2:h[b]?=some (.lst (QU vs))):eqV h EQ (.tup [.sym x,.loc a]) (.tup [.sym y,.loc b])=some (Nat.beq x y&&eqW ws vs):=by
 show(match eqV h 5 (.sym x) (.sym y)with|some u=>(match (match eqV h 5 (.loc a) (.loc b)with|some v=>(match Yq (eqV h 5) [] []with|some z=>some (v&&z)|none=>none)|none=>none)with|some z=>some (u&&z)|none=>none)|none=>none)=_
 rw[L8 3 h1 h2]
 show some (Nat.beq x y&&(eqW ws vs&&true))=_
 rw[Bool.and_true]
theorem Ext.old {h h':H}(E:Ext h h'){l:Nat}(hl:l<h.length):h'[l]?=h[l]?:=by
 obtain⟨X,rfl⟩:=E
 exact List.getElem?_append_left hl
theorem TO.ext {h h':H}{gs:List Gm}{W:Nat}{tb:Nat→Option (Nat×Nat)}(T:TO h gs W tb)(E:Ext h h'):TO h' gs W tb:=T.keep (T.k.ext E) fun l o=>E.old (T.lt o)
structure PuS (h:H) (gs:List Gm) (W:Nat) (tb:Nat→Option (Nat×Nat)):Prop where
 t:TO h gs W tb
 m:MS h gs
 w:∀g∈gs,g.to=none→¬own tb gs g.wl∧g.wl≠35
def Gk:List SX:=[(sIf (tE (eEq (Qi (Qa 1) (Qa 5)) (QK [(Qa 2),(Qa 3)]))) [(BE (Qa 1) (Qa 5) QT)] [])]
section
variable {ns:List Int} {n:Nat} {h h':H} {gs:List Gm} {W nm t m nl wl:Nat} {tb tb':Nat→Option (Nat×Nat)} {ws:List Nat} {g:Gm}
theorem UN {t:Nat}(q:g.to=some t):YA g=.none:=by unfold YA;rw[q]
theorem Fs {C:CT}(h35:h[35]?=some (.lst (gs.map YA)))(hw:∀g∈gs,g.to=none→h[g.wl]?=some (.lst (QU g.ws))∧g.wl≠35)(hwl:h[wl]?=some (.lst (QU ws)))(w35:wl≠35)(gl:gs.length≤45):
  ∃x h',YF (.one 5) (QN Gk) 64 (.rng 0 gs.length) 0 C ns [.loc 32,.loc 35,.sym nm,.loc wl,.loc m,.unb] h=some ((.nxt,[.loc 32,.loc 35,.sym nm,.loc wl,.loc m,x]),h')∧(∀l,l≠35→h'[l]?=h[l]?)∧h'.length=h.length∧h'[35]?=some (.lst (gs.map fun g=>YA (Yi nm ws t g))):=by
 refine q0 ?_;intro Q;have H:=Q4 (t:=.one 5) (body:=QN Gk) (src:=.rng 0 gs.length) (C:=C) (ns:=ns) (K:=gs.length) (items:=fun k=>.int (k:Int))
  (fun k ρ h'=>(∃x,ρ=[.loc 32,.loc 35,.sym nm,.loc wl,.loc m,x])∧(∀l,l≠35→h'[l]?=h[l]?)∧h'.length=h.length∧∃L:List PV,h'[35]?=some (.lst L)∧L.length=gs.length∧∀(j:Nat) (g:Gm),gs[j]?=some g→L[j]?=some (if j<k then YA (Yi nm ws t g)else YA g))
  (fun v h'=>False)
  (by intro k ρ h' _;simp only[Je])
  (by
   intro k ρ h' lt hI;obtain⟨⟨x,rfl⟩,f,len,⟨L,e35,Ll,Le⟩⟩:=hI
   have eg:=List.getElem?_eq_getElem lt
   generalize gs[k]=g at eg
   have mg:g∈gs:=List.mem_of_getElem? eg
   refine⟨[.loc 32,.loc 35,.sym nm,.loc wl,.loc m,.int (k:Int)],rfl,?_⟩
   refine q0 ?_;intro Q;have ek:=Le k g eg
   rewrite [if_neg (Nat.lt_irrefl _)]at ek
   have it:Yw L (k:Int)=some (YA g):=YI (by exact o87 lt gl Ll) ek
   clear ek;have nxt:YA (Yi nm ws t g)=YA g→∀(j:Nat) (g:Gm),gs[j]?=some g→L[j]?=some (if j<k+1 then YA (Yi nm ws t g)else YA g):=fun q j a ea=>by
    clear it lt;rw[Le j a ea]
    clear Le;by_cases z:j=k
    ·subst z
     rewrite [eg]at ea
     cases ea
     rw[if_neg (Nat.lt_irrefl _),if_pos (Nat.lt_succ_self _),q]
    ·by_cases y:j<k
     ·rw[if_pos y,if_pos (by exact o59 y)]
     ·rw[if_neg y,if_neg (by exact o60 y z)]
   cases et:g.to with
   |some t'=>
    simp only[UN et]at it
    have eq:eqV h' EQ .none (.tup [.sym nm,.loc wl])=some false:=rfl
    have se:Yi nm ws t g=g:=by
     delta Yi stk
     rw[et]
     simp
    refine⟨.nxt,[.loc 32,.loc 35,.sym nm,.loc wl,.loc m,.int (k:Int)],h',?_,Or.inr ⟨Or.inl rfl,⟨_,rfl⟩,f,len,L,e35,Ll,nxt (by rw[se])⟩⟩
    unfold Gk
    walk_at "ss"
   |none=>
    refine q1 k ?_;intro Q;rw[Ue et]at it
    obtain⟨w1,w2⟩:=hw g mg et
    have eq:=KT (h:=h') (x:=g.nm) (y:=nm) ((f _ w2).trans w1) ((f _ w35).trans hwl)
    cases q:(Nat.beq g.nm nm&&eqW g.ws ws)with
    |false=>
     rw[q]at eq
     have se:Yi nm ws t g=g:=by
      delta Yi stk
      rw[et]
      split
      ·rename_i c
       rw[c,Bool.true_and]at q
       rewrite [q]
       simp
      ·rfl
     refine⟨.nxt,[.loc 32,.loc 35,.sym nm,.loc wl,.loc m,.int (k:Int)],h',?_,Or.inr ⟨Or.inl rfl,⟨_,rfl⟩,f,len,L,e35,Ll,nxt (by rw[se])⟩⟩
     unfold Gk
     walk_at "ss"
    |true=>
     clear nxt;rw[q]at eq
     rw[Bool.and_eq_true]at q
     have se:(Yi nm ws t g).to=some t:=DU et (Nat.eq_of_beq_eq_true q.1) (Q7.mp q.2)
     have kk:(Yt (k:Int)&&decide (0≤(k:Int))&&Nat.blt (k:Int).toNat L.length)=true:=by
      simp only[JK (by exact o87 lt gl Ll),Int.toNat_natCast,show Nat.blt k L.length=true from Nat.ble_eq_true_of_le (Ll▸lt)]
      simp
     obtain⟨h2,r2,a2,b2,l2,_⟩:=QC e35 (.lst (L.set (k:Int).toNat .none))
     refine⟨.nxt,[.loc 32,.loc 35,.sym nm,.loc wl,.loc m,.int (k:Int)],h2,?_,Or.inr ⟨Or.inl rfl,⟨_,rfl⟩,fun l hl=>(b2 l hl).trans (f l hl),l2.trans len,_,a2,by rw[List.length_set];exact Ll,fun j a ea=>?_⟩⟩
     ·unfold Gk
      walk_at "ss"
     ·simp only[Int.toNat_natCast]
      by_cases z:j=k
      ·subst z
       rewrite [eg]at ea
       cases ea
       rw[List.getElem?_set_self (by exact o33 lt Ll),if_pos (Nat.lt_succ_self _),UN se]
      ·rewrite [List.getElem?_set_ne (Ne.symm z),Le j a ea]
       by_cases y:j<k
       ·rw[if_pos y,if_pos (by exact o59 y)]
       ·rw[if_neg y,if_neg (by exact o60 y z)])
  gs.length 0 64 [.loc 32,.loc 35,.sym nm,.loc wl,.loc m,.unb] h (by exact o30) (by exact o86 gl) ⟨⟨_,rfl⟩,fun Z Z=>rfl,rfl,_,h35,List.length_map _,fun j g e=>by rw[if_neg (Nat.not_lt_zero _),List.getElem?_map,e];rfl⟩
 obtain⟨fl,ρ',h1,e,r⟩:=H
 rcases r with ⟨v,rfl,F⟩|⟨rfl,⟨y,rfl⟩,f,len,L,e35,Ll,Le⟩
 ·exact F.elim
 refine⟨y,h1,e,f,len,?_⟩
 rw[e35]
 congr 2
 apply List.ext_getElem?
 intro j
 rw[List.getElem?_map]
 cases ej:gs[j]? with
 |none=>exact List.getElem?_eq_none (by rw[Ll];exact List.getElem?_eq_none_iff.mp ej)
 |some g=>rewrite [Le j g ej,if_pos (Qc ej)];rfl
end
end
section
section
variable {ns:List Int} {n:Nat} {h h':H} {gs:List Gm} {W nm t m nl wl:Nat} {tb tb':Nat→Option (Nat×Nat)} {ws:List Nat} {g:Gm}
theorem G2:(Yy nm ws m nl wl W gs).map YA=(gs.map fun g=>YA (Yi nm ws (W+1) g))++[.tup [.sym nm,.loc wl]]:=by
 unfold Yy
 simp only[List.map_append,List.map_map]
 rfl
theorem CA (hn:15≤n)(P:PuS h gs W tb)(hN:Nm nm)(hw:L12 ws)(dw:Wds ws)(gl:gs.length≤39)(hwl:h[wl]?=some (.lst (QU ws)))(wo:¬own tb gs wl)(w35:wl≠35)(h36:36≤h.length):
  ∃m nl h' tb',Qb ns n 75 [.loc 32,.loc 35,.sym nm,.loc wl] h=some (.loc m,h')∧PuS h' (Yy nm ws m nl wl W gs) (W+1) tb'∧(∀l,l<h.length→l≠35→¬own tb gs l→h'[l]?=h[l]?)∧h.length≤h'.length∧(∀l,own tb' (Yy nm ws m nl wl W gs) l→own tb gs l∨h.length≤l):=by
 refine q0 ?_;intro Q;obtain⟨T,M,hw0⟩:=P
 have ht:=T.t
 have q1:(h++[AO.lst [.sym 23]]).length=h.length+1:=by simp
 have E2:Ext h (h++[AO.lst [.sym 23]]++[JR nm (Ql nm ws) h.length 0 0]):=.snoc (.snoc .refl)
 have T2:=T.ext E2
 have noL:∀l,h.length≤l→¬own tb gs l:=fun l hl o=>by have:=T.lt o;exact o88 this hl q1
 obtain⟨h1,tb',c1,T1,f1,l1,o1⟩:=C9 (ns:=ns) (n:=n - 1) (by omega) T2 Qe (q1.symm▸Nat.le_succ_of_le h36) (noL _ (q1.symm▸Nat.le_succ _)) hN hw dw (by omega) wl
 have le1:h.length≤h1.length:=by have:=E2.le;omega
 have old1:∀l,l<h.length→¬own tb gs l→h1[l]?=h[l]?:=fun l hl no=>by
  rw[f1 l (by have:=E2.le;omega) (by exact o266 hl q1) no,E2.old hl]
 have no35:¬own tb gs 35:=by
  rintro (e|e|(e|⟨k,p,hk,e,q⟩)|⟨g,hg,e⟩)
  ·exact o91 e
  ·exact o92 e
  ·exact o93 e
  ·have:=T.b.lo k p hk e;exact o94 q this
  ·have:=(T.m g hg).1;omega
 have h35:h1[35]?=some (.lst (gs.map YA)):=(old1 35 (by omega) no35).trans M.l
 have hwl1:h1[wl]?=some (.lst (QU ws)):=(old1 wl (Qc hwl) wo).trans hwl
 obtain⟨x,h2,e2,f2,l2,e35⟩:=Fs (ns:=ns) (nm:=nm) (wl:=wl) (ws:=ws) (t:=W+1) (m:=(h++[AO.lst [.sym 23]]).length) (C:=Qb ns (n - 1)) h35 (fun g hg to=>⟨(old1 g.wl (Qc (M.w g hg to)) (hw0 g hg to).1).trans (M.w g hg to),(hw0 g hg to).2⟩) hwl1 w35 (by omega)
 have lm:(gs.map YA).length=gs.length:=List.length_map _
 have shm:QG (gs.map YA)=true:=Yu (by omega)
 have rg:ZH 0 (((gs.map YA).length:Nat):Int) h1=some (.rng 0 gs.length,h1):=by rw[lm];exact J7 (by omega)
 have sh2:QG (gs.map fun g=>YA (Yi nm ws (W+1) g))=true:=Yu (by rw[List.length_map];omega)
 obtain⟨h3,r3,a3,b3,l3,_⟩:=QC e35 (.lst ((gs.map fun g=>YA (Yi nm ws (W+1) g))++[.tup [.sym nm,.loc wl]]))
 have same:∀l,l≠35→h3[l]?=h1[l]?:=fun l hl=>(b3 l hl).trans (f2 l hl)
 have o1':∀l,own tb' (Yy nm ws (h++[AO.lst [.sym 23]]).length h.length wl W gs) l→own tb gs l∨h.length≤l:=fun l o=>by
  rcases o1 l o with q|q|q
  ·exact Or.inl q
  ·exact Or.inr (by exact o267 q q1)
  ·exact Or.inr (by have:=E2.le;omega)
 have no35':¬own tb' (Yy nm ws (h++[AO.lst [.sym 23]]).length h.length wl W gs) 35:=fun o=>by
  rcases o1' 35 o with q|q
  ·exact no35 q
  ·omega
 refine⟨(h++[AO.lst [.sym 23]]).length,h.length,h3,tb',?_,⟨T1.keep (T1.k.same fun k hk=>same k (by exact o268 hk)) fun l o=>same l fun e=>no35' (e▸o),⟨by rw[G2];exact a3,fun y hy yt=>?_,Iz T.nu,by rw[Zv];exact o269 lm gl,fun y hy=>?_⟩,fun y hy yt=>?_⟩,fun l hl ne no=>(same l ne).trans (old1 l hl no),by simp only[l3,l2];exact le1,o1'⟩
 ·have g3:(h++[AO.lst [.sym 23]]).length<h3.length:=by
   have:=Qc ((T1.m _ (List.mem_append_right _ (List.mem_singleton.mpr rfl))).2)
   rw[l3,l2]
   exact this
  refine Zt (by omega) rfl ?_ M.l a3 (by intro q;have:=congrArg (fun o=>match o with|AO.lst l=>l.length|_=>0) q;simp at this)
  apply Qd Qbc
  ·apply Qt
   ·walk_at "s"
   apply Q2
   apply Qt
   ·apply YG
    ·walk_at "i"
    ·exact e2
   apply Q2
   walk_at "ss"
  ·exact rfl
 ·rcases Zi hy with ⟨g,hg,rfl⟩|rfl
  ·have gt:g.to=none:=by
    rcases ZP (nm:=nm) (ws:=ws) (t:=W+1) (g:=g)with r|⟨_,_,_,r⟩
    ·exact r.symm.trans yt
    ·rw[r]at yt;cases yt
   rw[OL,J9]
   have:=hw0 g hg gt
   simp only[same _ this.2,old1 _ (Qc (M.w g hg gt)) this.1]
   exact M.w g hg gt
  ·show h3[wl]?=_
   rewrite [same _ w35]
   exact hwl1
 ·have:=Ig hN hw dw T.wf y hy
  exact⟨this.1,this.2.1,this.2.2.1⟩
 ·rcases Zi hy with ⟨g,hg,rfl⟩|rfl
  ·have gt:g.to=none:=by
    rcases ZP (nm:=nm) (ws:=ws) (t:=W+1) (g:=g)with r|⟨_,_,_,r⟩
    ·exact r.symm.trans yt
    ·rw[r]at yt;cases yt
   rw[OL]
   refine⟨fun o=>?_,(hw0 g hg gt).2⟩
   rcases o1' _ o with q|q
   ·exact(hw0 g hg gt).1 q
   ·have:=Qc (M.w g hg gt)
    exact o88 this q q1
  ·refine⟨fun o=>?_,w35⟩
   rcases o1' _ o with q|q
   ·exact wo q
   ·have:=Qc hwl
    have q:h.length≤wl:=q
    omega
end
end
section
def QH:Nat→List PV→List (PV×PV)
 |_,[]=>[]
 |i,v::vs=>(.int (i:Int),v)::QH (i+1) vs
theorem Ju:∀{vs:List PV} {i:Nat},(QH i vs).length=vs.length
 |[],_=>rfl
 |v::vs,i=>by simp[QH,Ju]
theorem Of {i j:Nat}:keyEq (.int (i:Int)) (.int (j:Int))=some (Nat.beq i j):=by
 show some ((i:Int)==(j:Int))=_
 congr 1
 cases q:Nat.beq i j with
 |true=>simp[Nat.eq_of_beq_eq_true q]
 |false=>
  have:i≠j:=fun e=>by rw[e,Nat.beq_refl]at q;cases q
  simp;exact o57 this
theorem Uw:∀{vs:List PV} {i j:Nat},QP (.int ((i+j:Nat):Int)) (QH i vs)=some vs[j]?
 |[],_,_=>rfl
 |v::vs,i,j=>by
  show QP _ ((.int (i:Int),v)::QH (i+1) vs)=_
  rw[IK Of]
  cases j with
  |zero=>simp only[Nat.add_zero,Nat.beq_refl];rfl
  |succ j=>
   rw[Yo (by exact o95:i≠i+(j+1))]
   show QP _ (QH (i+1) vs)=_
   rw[show i+(j+1)=i+1+j by exact o96,Uw]
   rfl
theorem Ye {vs:List PV}{j:Nat}:QP (.int (j:Int)) (QH 0 vs)=some vs[j]?:=by
 have:=Uw (vs:=vs) (i:=0) (j:=j)
 rw[Nat.zero_add]at this
 exact this
theorem Og:∀{vs:List PV} {i j:Nat} {v:PV},j<vs.length→JG (.int ((i+j:Nat):Int)) v (QH i vs)=QH i (vs.set j v)
 |[],_,_,_,hj=>by cases hj
 |w::vs,i,j,v,hj=>by
  show JG _ v ((.int (i:Int),w)::QH (i+1) vs)=_
  rw[Kg Of]
  cases j with
  |zero=>simp only[Nat.add_zero,Nat.beq_refl];rfl
  |succ j=>
   rw[Yo (by exact o95:i≠i+(j+1))]
   show(PV.int (i:Int),w)::JG _ v (QH (i+1) vs)=_
   rw[show i+(j+1)=i+1+j by exact o96,Og (by simpa using hj)]
   rfl
theorem GN {vs:List PV}{j:Nat}{v:PV}(hj:j<vs.length):JG (.int (j:Int)) v (QH 0 vs)=QH 0 (vs.set j v):=by
 have:=Og (vs:=vs) (i:=0) (v:=v) hj
 rw[Nat.zero_add]at this
 exact this
theorem M9:∀{vs:List PV} {i:Nat} {v:PV},QH i (vs++[v])=QH i vs++[(.int ((i+vs.length:Nat):Int),v)]
 |[],_,_=>rfl
 |w::vs,i,v=>by
  show(PV.int (i:Int),w)::QH (i+1) (vs++[v])=(PV.int (i:Int),w)::(QH (i+1) vs++_)
  simp only[M9,show i+1+vs.length=i+(w::vs).length by simp;exact o270]
theorem Wy {vs:List PV}{v:PV}:JG (.int (vs.length:Int)) v (QH 0 vs)=QH 0 (vs++[v]):=by
 rw[M9,Zl (by rw[Ye,List.getElem?_eq_none (Nat.le_refl _)]),Nat.zero_add]
theorem UW:∀{vs:List PV} {i:Nat},Wm (QH i vs)=some ((List.range' i vs.length).map fun j:Nat=>(j:Int))
 |[],_=>rfl
 |v::vs,i=>by
  show(Wm (QH (i+1) vs)).map ((i:Int)::·)=_
  simp only[UW]
  rfl
theorem Ot:∀{k i:Nat},ris (i:Int) ((List.range' (i+1) k).map fun j:Nat=>(j:Int))=true
 |0,_=>rfl
 |k+1,i=>by
  show(decide ((i:Int)<((i+1:Nat):Int))&&ris ((i+1:Nat):Int) ((List.range' (i+1+1) k).map fun j:Nat=>(j:Int)))=true
  simp only[Ot (k:=k),Bool.and_true,decide_eq_true_eq]
  exact o271
theorem IQ {k i:Nat}:Mr ((List.range' i k).map fun j:Nat=>(j:Int))=true:=by
 cases k with
 |zero=>rfl
 |succ k=>exact Ot
section
variable {C:CT} {ns:List Int} {ρ ρ₁:Lc} {h h₁ h₂ h₃ h₄:H} {a b e c:EX} {v w k p q:PV} {m l:Nat} {ds ds':List (PV×PV)} {r:Option PV}
theorem O4 (e1:a C ns ρ h=some (.loc l,h₁))(e2:h₁[l]?=some (.dct ds))(e3:b C ns ρ h₁=some (k,h₂))(e4:c C ns ρ h₂=some (v,h₃))(e5:h₃[l]?=some (.dct ds'))(k1:ZT k=true)(k2:QP k ds'=some none)(k3:QG ds'=true)(s:Y0 h₃ l (.dct (JG k v ds')) h₄):WD a b c C ns ρ h=some (v,h₄):=by
 refine Qv e1 ?_
 have:JU (.loc l) h₁=true:=congrArg Option.isSome (Jj e2)
 show(match JU (.loc l) h₁ with|true=>Qp _ _|false=>none)=_
 rw[this]
 refine Qv e3 (Qv e4 ?_)
 exact(Jj e5).trans (gdT (by rw[k1,k3];rfl) (by rw[k2,←s];rfl))
theorem O0 (e1:a C ns ρ h=some (.loc l,h₁))(e2:h₁[l]?=some (.dct ds))(e3:b C ns ρ h₁=some (k,h₂))(e4:c C ns ρ h₂=some (v,h₃))(e5:h₃[l]?=some (.dct ds'))(k1:ZT k=true)(k2:QP k ds'=some (some w))(k3:QG ds'=true):WD a b c C ns ρ h=some (w,h₃):=by
 refine Qv e1 ?_
 have:JU (.loc l) h₁=true:=congrArg Option.isSome (Jj e2)
 show(match JU (.loc l) h₁ with|true=>Qp _ _|false=>none)=_
 rw[this]
 refine Qv e3 (Qv e4 ?_)
 exact(Jj e5).trans (gdT (by rw[k1,k3];rfl) (by rw[k2];rfl))
theorem Ut {t:Tg}{ifl:List TX}{src:Src}{K A:Nat}{items:Nat→PV}(St:Nat→List PV→H→Prop)
  (ha:∀i acc h,St i acc h→acc.length≤60)
  (hs:∀i acc h,St i acc h→YQ h i src=some (if i<K then some (items i)else none))
  (hb:∀i acc h,i<K→St i acc h→∃ρ₁,ZY t (items i) ρ=some ρ₁∧∃b h',Yk ifl C ns ρ₁ h=some (b,h')∧(b=false→St (i+1) acc h')∧(b=true→∃v h'',e C ns ρ₁ h'=some (v,h'')∧h''[A]?=some (.lst acc)∧∀h3,Y0 h'' A (.lst (acc++[v])) h3→St (i+1) (acc++[v]) h3)):
  ∀(k i n:Nat) (acc:List PV) (h:H),i+k=K→k<n→St i acc h→∃acc' h',QZ t (Yk ifl) (MA A e) n src i C ns ρ h=some ((),h')∧St K acc' h'
 |0,i,n,acc,h,q,hn,S=>by
  clear hb;refine q2 K n ?_;intro Q;obtain⟨n,rfl⟩:∃m,n=m+1:=⟨n - 1,by omega⟩
  have:i=K:=q
  clear q;subst this
  exact⟨acc,h,XC (by rw[hs _ _ _ S,if_neg (Nat.lt_irrefl _)]),S⟩
 |k+1,i,n,acc,h,q,hn,S=>by
  refine q1 n ?_;intro Q;obtain⟨n,rfl⟩:∃m,n=m+1:=⟨n - 1,by omega⟩
  have lt:i<K:=by exact o82 q
  obtain⟨ρ₁,p,b,h',c,n0,n1⟩:=hb i acc h lt S
  have s:YQ h i src=some (some (items i)):=by rw[hs _ _ _ S,if_pos lt]
  cases b with
  |false=>
   obtain⟨acc',h₂,r,S'⟩:=Ut St ha hs hb k (i+1) n acc h' ((Nat.add_right_comm i 1 k).trans q) (Nat.lt_of_succ_lt_succ hn) (n0 rfl)
   exact⟨acc',h₂,Kk s p c (CI rfl r),S'⟩
  |true=>
   obtain⟨v,h'',ev,g,nx⟩:=n1 rfl
   obtain⟨acc',h₂,r,S'⟩:=Ut St ha hs hb k (i+1) n (acc++[v]) (h''.set A (.lst (acc++[v]))) ((Nat.add_right_comm i 1 k).trans q) (Nat.lt_of_succ_lt_succ hn) (nx _ rfl)
   exact⟨acc',h₂,Kk s p c (RY rfl (OS ev g (Yu (by have:=ha _ _ _ S;omega)) rfl) r),S'⟩
theorem HT {t:Tg}{ifl:List TX}{it:IX}{src:Src}{K:Nat}{items:Nat→PV}(St:Nat→List PV→H→Prop)
  (ei:it C ns ρ h=some (src,h₁)) (er:YN (QX t) ρ=ρ₁) (hK:K≤60) (S0:St 0 [] (h₁++[.lst []]))
  (ha:∀i acc h,St i acc h→acc.length≤60)
  (hs:∀i acc h,St i acc h→YQ h i src=some (if i<K then some (items i)else none))
  (hb:∀i acc h,i<K→St i acc h→∃ρ₂,ZY t (items i) ρ₁=some ρ₂∧∃b h',Yk ifl C ns ρ₂ h=some (b,h')∧(b=false→St (i+1) acc h')∧(b=true→∃v h'',e C ns ρ₂ h'=some (v,h'')∧h''[h₁.length]?=some (.lst acc)∧∀h3,Y0 h'' h₁.length (.lst (acc++[v])) h3→St (i+1) (acc++[v]) h3)):
  ∃acc' h',QJ it t ifl e C ns ρ h=some (.loc h₁.length,h')∧St K acc' h':=by
 obtain⟨acc',h',r,S⟩:=Ut (ρ:=ρ₁) (A:=h₁.length) St ha hs hb K 0 64 [] _ (Nat.zero_add K) (Nat.lt_of_le_of_lt hK (by decide)) S0
 exact⟨acc',h',BK ei er r,S⟩
end
end
section
def rsV (r:Nat×List Nat):PV:=.tup [.sym r.1,Ql r.1 r.2]
def NC (rs:List (Nat×List Nat))(nm:Nat)(ws:List Nat):Bool:=rs.any fun r=>Nat.beq r.1 nm&&eqW r.2 ws
theorem Qa4 {h:H}{n m:Nat}{ws vs:List Nat}:eqV h 5 (Ql n ws) (Ql m vs)=some (Nat.beq n m&&eqW ws vs):=by
 have e:eqV h 4 (.tup (fOf n::ws.map kOf)) (.tup (fOf m::vs.map kOf))=some (Nat.beq n m&&eqW ws vs):=by
  show(match eqV h 3 (fOf n) (fOf m)with|some a=>(match Yq (eqV h 3) (ws.map kOf) (vs.map kOf)with|some b=>some (a&&b)|none=>none)|none=>none)=_
  rw[eqf 1,eqm 0]
 show(match eqV h 4 (.sym 1) (.sym 1)with|some a=>(match (match eqV h 4 (.tup (fOf n::ws.map kOf)) (.tup (fOf m::vs.map kOf))with|some a=>(match Yq (eqV h 4) [.none] [.none]with|some b=>some (a&&b)|none=>none)|none=>none)with|some b=>some (a&&b)|none=>none)|none=>none)=_
 rw[e]
 show some (true&&((Nat.beq n m&&eqW ws vs)&&(true&&true)))=_
 simp
theorem C6 {h:H}{n m:Nat}{ws vs:List Nat}:eqV h EQ (rsV (n,ws)) (rsV (m,vs))=some (Nat.beq n m&&eqW ws vs):=by
 show(match eqV h 5 (.sym n) (.sym m)with|some a=>(match (match eqV h 5 (Ql n ws) (Ql m vs)with|some a=>(match Yq (eqV h 5) [] []with|some b=>some (a&&b)|none=>none)|none=>none)with|some b=>some (a&&b)|none=>none)|none=>none)=_
 rw[Qa4]
 show some (Nat.beq n m&&((Nat.beq n m&&eqW ws vs)&&true))=_
 cases Nat.beq n m<;>simp
theorem Kn {h:H}{nm:Nat}{ws:List Nat}:∀{rs:List (Nat×List Nat)},anyV h (rsV (nm,ws)) (rs.map rsV)=some (NC rs nm ws)
 |[]=>rfl
 |(a,vs)::rs=>by
  show(match eqV h EQ (rsV (a,vs)) (rsV (nm,ws))with|some true=>(match anyV h (rsV (nm,ws)) (rs.map rsV)with|some _=>some true|none=>none)|some false=>anyV h (rsV (nm,ws)) (rs.map rsV)|none=>none)=_
  rw[C6,Kn]
  unfold NC
  rw[List.any_cons]
  cases (Nat.beq a nm&&eqW vs ws)<;>rfl
section
variable {ns:List Int} {n le ld rl nm:Nat} {h:H} {vs:List PV} {ws:List Nat} {rs:List (Nat×List Nat)}
theorem GZ (hn:1≤n):Qb ns n 31 [.loc h.length,.loc 32] (h++[.ins 3 []])=some (.none,h++[.ins 3 [(21,.loc 32),(0,.loc (h++[AO.ins 3 [(21,.loc 32)]]).length)]]++[.dct []]):=by
 refine Zt hn rfl ?_ Qe (Qf Qe) (by intro q;cases q)
 apply Qd QaB
 ·walk_at "body"
 ·exact rfl
theorem Fp (hn:1≤n)(hle:h[le]?=some (.ins 3 [(21,.loc 32),(0,.loc ld)]))(hld:h[ld]?=some (.dct (QH 0 vs)))(lv:vs.length≤50):
  ∃h',Qb ns n 32 [.loc le,.int (vs.length:Int),.sym nm,Ql nm ws] h=some (.none,h')∧h'[ld]?=some (.dct (QH 0 (vs++[.loc h.length])))∧h'[h.length]?=some (.lst ([(nm,ws)].map rsV))∧(∀l,l<h.length→l≠ld→h'[l]?=h[l]?)∧h'.length=h.length+1:=by
 refine q0 ?_;intro Q;have f:QP (.int (vs.length:Int)) (QH 0 vs)=some none:=by rw[Ye,List.getElem?_eq_none (Nat.le_refl _)]
 have sh:QG (QH 0 vs)=true:=Nat.ble_eq_true_of_le (by rw[Ju];unfold CAP;omega)
 obtain⟨h1,r1,a1,b1,l1,_⟩:=QC hld (.dct (JG (.int (vs.length:Int)) (.loc h.length) (QH 0 vs)))
 have an:∀h',anyV h' (.tup [.sym nm,Ql nm ws]) []=some false:=fun Z=>rfl
 have g1:(h1++[AO.lst ([]:List PV)])[h.length]?=some (.lst []):=by rw[←l1];exact Qe
 have an1:=an (h1++[AO.lst []])
 have s2:Y0 (h1++[AO.lst []]) h.length (.lst ([]++[.tup [.sym nm,Ql nm ws]])) (h1++[.lst ([]++[.tup [.sym nm,Ql nm ws]])]):=by rw[←l1];exact N3
 have a2:(h1++[AO.lst ([]++[.tup [.sym nm,Ql nm ws]])])[ld]?=_:=Qf a1
 refine⟨h1++[.lst ([]++[.tup [.sym nm,Ql nm ws]])],?_,?_,?_,?_,?_⟩
 ·refine Zt hn rfl ?_ hld a2 ?_
  ·apply Qd X7
   ·walk_at "body"
   ·exact rfl
  ·intro q
   simp only[Wy]at q
   have:=congrArg (fun o=>match o with|AO.dct l=>l.length|_=>0) q
   simp[Ju]at this
 ·rw[←Wy]
  exact a2
 ·rw[←l1]
  exact Qe
 ·intro l hl ne
  rw[List.getElem?_append_left (by exact o33 hl l1),b1 l ne]
 ·simp[l1]
theorem Kj (hn:1≤n){k:Nat}(hle:h[le]?=some (.ins 3 [(21,.loc 32),(0,.loc ld)]))(hld:h[ld]?=some (.dct (QH 0 vs)))(lv:vs.length≤50)(hk:vs[k]?=some (.loc rl))(hrl:h[rl]?=some (.lst (rs.map rsV)))(lr:rs.length≤50):
  ∃h',Qb ns n 32 [.loc le,.int (k:Int),.sym nm,Ql nm ws] h=some (.none,h')∧h'[rl]?=some (.lst ((if NC rs nm ws then rs else rs++[(nm,ws)]).map rsV))∧(∀l,l<h.length→l≠rl→h'[l]?=h[l]?)∧h.length≤h'.length:=by
 have f:QP (.int (k:Int)) (QH 0 vs)=some (some (.loc rl)):=by simp only[Ye,hk]
 have sh:QG (QH 0 vs)=true:=Nat.ble_eq_true_of_le (by rw[Ju];unfold CAP;omega)
 have an:anyV (h++[AO.lst []]) (.tup [.sym nm,Ql nm ws]) (rs.map rsV)=some (NC rs nm ws):=Kn
 cases q:NC rs nm ws with
 |true=>
  rw[q]at an
  refine⟨h,?_,by rw[if_pos rfl];exact hrl,fun Z Z Z=>rfl,Nat.le_refl _⟩
  apply L_v
  ·omega
  ·rfl
  ·apply Qd X7
   ·walk_at "body"
   ·exact rfl
  ·walk_at "ext"
  ·exact rfl
 |false=>
  simp only[q]at an
  have shr:QG (rs.map rsV)=true:=Yu (by rw[List.length_map];omega)
  obtain⟨h1,r1,a1,b1,l1,_⟩:=QC hrl (.lst (rs.map rsV++[.tup [.sym nm,Ql nm ws]]))
  have a2:(h1++[AO.lst []])[rl]?=_:=Qf a1
  refine⟨h1++[.lst []],?_,by rw[if_neg (by simp),List.map_append];exact a2,fun l hl ne=>by rw[List.getElem?_append_left (by exact o33 hl l1),b1 l ne],by simp[l1]⟩
  refine Zt hn rfl ?_ hrl a2 (by intro q;have:=congrArg (fun o=>match o with|AO.lst l=>l.length|_=>0) q;simp at this)
  apply Qd X7
  ·walk_at "body"
  ·exact rfl
end
end
section
def eqNs (A B:List Gm):Bool:=decide (A.map (·.num)=B.map (·.num))
theorem OM {h:H}(k:Nat):∀{A B:List Gm},Yq (eqV h (k+1)) (Yh A) (Yh B)=some (eqNs A B)
 |[],[]=>rfl
 |[],b::B=>rfl
 |a::A,[]=>rfl
 |a::A,b::B=>by
  have e1:eqV h (k+1) (.int (a.num:Int)) (.int (b.num:Int))=some (Nat.beq a.num b.num):=by
   show some ((a.num:Int)==(b.num:Int))=_
   congr 1
   cases q:Nat.beq a.num b.num with
   |true=>simp[Nat.eq_of_beq_eq_true q]
   |false=>
    have:a.num≠b.num:=fun e=>by rw[e,Nat.beq_refl]at q;cases q
    simp;exact o57 this
  show(match eqV h (k+1) (.int (a.num:Int)) (.int (b.num:Int))with|some x=>(match Yq (eqV h (k+1)) (Yh A) (Yh B)with|some y=>some (x&&y)|none=>none)|none=>none)=_
  rw[e1,OM k]
  show some (Nat.beq a.num b.num&&eqNs A B)=_
  congr 1
  unfold eqNs
  rw[Bool.eq_iff_iff,Bool.and_eq_true,decide_eq_true_iff,decide_eq_true_iff,Nat.beq_eq,List.map_cons,List.map_cons,List.cons.injEq]
def Fh (vs:List Nat)(L L':List Gm):Bool:=Nat.beq (cond (vs.all Z3) (DP (Y8 vs L)) 21) (cond (vs.all Z3) (DP (Y8 vs L')) 21)&&eqNs (Y8 vs L) (Y8 vs L')
theorem VZ {h:H}{vs:List Nat}{L L':List Gm}:eqV h EQ (Ha vs L) (Ha vs L')=some (Fh vs L L'):=by
 have e:eqV h 5 (.tup (Yh (Y8 vs L))) (.tup (Yh (Y8 vs L')))=some (eqNs (Y8 vs L) (Y8 vs L')):=OM 3
 unfold Ha
 show(match eqV h 5 (.sym _) (.sym _)with|some u=>(match (match eqV h 5 (.tup (Yh (Y8 vs L))) (.tup (Yh (Y8 vs L')))with|some v=>(match Yq (eqV h 5) [] []with|some z=>some (v&&z)|none=>none)|none=>none)with|some z=>some (u&&z)|none=>none)|none=>none)=_
 rw[e]
 show some (Nat.beq _ _&&(eqNs _ _&&true))=_
 rw[Bool.and_true]
 rfl
theorem Fi {A B:List Gm}(e:A.length=B.length):DP A=DP B:=by
 unfold DP;rw[e]
theorem Th {vs:List Nat}{L L':List Gm}:Fh vs L L'=eqNs (Y8 vs L) (Y8 vs L'):=by
 unfold Fh
 cases q:eqNs (Y8 vs L) (Y8 vs L')with
 |false=>rw[Bool.and_false]
 |true=>
  have e:=congrArg List.length (of_decide_eq_true q)
  simp only[List.length_map,List.length_map]at e
  rw[Fi e,Nat.beq_refl]
  rfl
def NK (gs:List Gm)(nm:Nat)(ws:List Nat)(v:Nat)(r:Nat×List Nat):Bool:=Nat.beq r.1 nm&&(mtW r.2 ws&&!Fh r.2 (QL r.1 v gs) (QL r.1 (v+1) gs))
def Ma:List SX:=[(sIf (tOr [(tE (eNe (Qa 3) (Qk (Qa 2) 22))),(tE (eEq (Qn 30 [(Qk (Qk (Qa 0) 21) 4),(Qa 4),(Qk (Qa 2) 23)]) (JF QS)))]) [DF] []),(sSet 5 (Qk (Qa 2) 24)),(sIf (tE (eNe (Qx (Qk (Qa 0) 21) 25 [(Qa 3),(Qa 4),(PH (Qa 5) (Qj 1))]) (Qx (Qk (Qa 0) 21) 25 [(Qa 3),(Qa 4),(Qa 5)]))) [(QA (YH true))] [])]
section
variable {ns:List Int} {n le ld rl nm k m nl v W:Nat} {h:H} {vs:List PV} {ws:List Nat} {rs:List (Nat×List Nat)} {gs:List Gm} {x:Int}
theorem Cg (hn:19≤n)(T:TS h gs W)(hle:h[le]?=some (.ins 3 [(21,.loc 32),(0,.loc ld)]))(hld:h[ld]?=some (.dct (QH 0 vs)))(hk:vs[k]?=some (.loc rl))(hrl:h[rl]?=some (.lst (rs.map rsV)))(lr:rs.length≤50)
  (wf:∀r∈rs,Nm r.1∧L12 r.2∧Wds r.2) (hm:h[m]?=some (JR nm (Ql nm ws) nl x ((v+1:Nat):Int))) (hw:L12 ws) (dw:Wds ws):
  Qb ns n 33 [.loc le,.int (k:Int),.loc m] h=some (.bool (rs.any (NK gs nm ws v)),h):=by
 refine q0 ?_;intro Q
 have f:QP (.int (k:Int)) (QH 0 vs)=some (some (.loc rl)):=by simp only[Ye,hk]
 generalize hL:h++[AO.lst []]=g
 have E:Ext h g:=by rw[←hL];exact .snoc .refl
 have T':=T.ext E
 have K':=T'.k
 have ht:=T'.t
 have hle':=E.get hle
 have hrl':=E.get hrl
 have hm':=E.get hm
 clear hm;unfold JR at hm'
 have len:(rs.map rsV).length=rs.length:=List.length_map _
 have H:=Q4 (t:=.many [3,4]) (body:=QN Ma) (src:=.lst rl) (C:=Qb ns (n - 1)) (ns:=ns) (K:=rs.length) (items:=fun k=>(rs.map rsV).getD k .unb)
  (fun j ρ h'=>h'=g∧(∃x y z,ρ=[.loc le,.int (k:Int),.loc m,x,y,z])∧(rs.take j).any (NK gs nm ws v)=false)
  (fun p h'=>h'=g∧p=.bool true∧rs.any (NK gs nm ws v)=true)
  (by
   clear hm' hle' ht K' T' E hL;rintro j ρ h' ⟨rfl,_⟩
   rw[YJ hrl']
   split
   ·rename_i c
    rewrite [List.getElem?_eq_getElem (by rw[len];exact c),List.getD_eq_getElem?_getD,List.getElem?_eq_getElem (by rw[len];exact c)]
    rfl
   ·rename_i c
    rw[List.getElem?_eq_none (by rw[len];exact o34 len c)])
  (by
   clear hrl' E hL;intro j ρ h' lt hI;obtain⟨rfl,⟨x,y,z,rfl⟩,st⟩:=hI
   have eg:=List.getElem?_eq_getElem lt
   generalize rs[j]=r at eg
   have mr:r∈rs:=List.mem_of_getElem? eg
   have it:(rs.map rsV).getD j .unb=rsV r:=by
    simp only[List.getD_eq_getElem?_getD,List.getElem?_map,eg]
    rfl
   rw[it]
   clear it;obtain⟨rn,us⟩:=r
   refine⟨[.loc le,.int (k:Int),.loc m,.sym rn,Ql rn us,z],rfl,?_⟩
   refine q0 ?_;intro Q;obtain⟨w1,w2,w3⟩:=wf _ mr
   dsimp only at w1 w2 w3
   have hj:=Y1 eg
   have nxt:NK gs nm ws v (rn,us)=false→(rs.take (j+1)).any (NK gs nm ws v)=false:=fun q=>by simp only[hj,List.any_append,st];simp[q]
   clear st;have en:eqV h' EQ (.sym rn) (.sym nm)=some (Nat.beq rn nm):=rfl
   cases q1:Nat.beq rn nm with
   |false=>
    rw[q1]at en
    refine⟨.cnt,[.loc le,.int (k:Int),.loc m,.sym rn,Ql rn us,z],h',?_,Or.inr ⟨Or.inr rfl,rfl,⟨_,_,_,rfl⟩,nxt (by unfold NK;rw[q1];rfl)⟩⟩
    unfold Ma
    walk_at "ss"
   |true=>
    have:=Nat.eq_of_beq_eq_true q1
    subst this
    rw[q1]at en
    have ci:=Pi (ns:=ns) (n:=n - 1) (m:=rn) (by omega) K' w2 hw w3 dw
    have ei:eqV h' EQ (mT rn us ws) QS=some (!mtW us ws):=Dv w2 hw
    cases q2:mtW us ws with
    |false=>
     rw[q2]at ei
     refine⟨.cnt,[.loc le,.int (k:Int),.loc m,.sym rn,Ql rn us,z],h',?_,Or.inr ⟨Or.inr rfl,rfl,⟨_,_,_,rfl⟩,nxt (by unfold NK;dsimp only;rw[q2];simp)⟩⟩
     unfold Ma
     walk_at "ss"
    |true=>
     rw[q2]at ei
     have a1:Qb ns (n - 1) 67 [.loc 32,.sym rn,Ql rn us,.int (((v+1:Nat):Int) - 1)] h'=some (Ha us (QL rn v gs),h'):=by
      rw[show((v+1:Nat):Int) - 1=(v:Int) by exact o272]
      exact Xp (by omega) T' w1 w2 w3
     have a2:Qb ns (n - 1) 67 [.loc 32,.sym rn,Ql rn us,.int ((v+1:Nat):Int)] h'=some (Ha us (QL rn (v+1) gs),h'):=Xp (by omega) T' w1 w2 w3
     have ea:=VZ (h:=h') (vs:=us) (L:=QL rn v gs) (L':=QL rn (v+1) gs)
     cases q3:Fh us (QL rn v gs) (QL rn (v+1) gs)with
     |true=>
      rw[q3]at ea
      refine⟨.nxt,[.loc le,.int (k:Int),.loc m,.sym rn,Ql rn us,.int ((v+1:Nat):Int)],h',?_,Or.inr ⟨Or.inl rfl,rfl,⟨_,_,_,rfl⟩,nxt (by unfold NK;dsimp only;rw[q3];simp)⟩⟩
      unfold Ma
      walk_at "ss"
     |false=>
      rw[q3]at ea
      refine⟨.ret (.bool true),[.loc le,.int (k:Int),.loc m,.sym rn,Ql rn us,.int ((v+1:Nat):Int)],h',?_,Or.inl ⟨_,rfl,rfl,rfl,List.any_eq_true.mpr ⟨_,mr,by unfold NK;dsimp only;simp only[q1,q2,q3];rfl⟩⟩⟩
      unfold Ma
      walk_at "ss")
  rs.length 0 64 [.loc le,.int (k:Int),.loc m,.unb,.unb,.unb] g (by exact o30) (by exact o47 len lr) ⟨rfl,⟨_,_,_,rfl⟩,rfl⟩
 clear hm' hle' ht K' T';obtain⟨fl,ρ',h',e,r⟩:=H
 subst hL
 have hld':=E.get hld
 have ei:QO (P9 (Qk (Qa 0) 0) (Qa 1) (QE [])) (Qb ns (n - 1)) ns [.loc le,.int (k:Int),.loc m,.unb,.unb,.unb] h=some (.lst rl,h++[.lst []]):=by
  refine Np (p:=.loc rl) (h₁:=h++[.lst []]) ?_ (BL hrl')
  refine XB (dv:=.loc h.length) (rr:=some (.loc rl)) (kv:=.int (k:Int)) (h₁:=h) (h₂:=h) ?_ hld ?_ ?_ hld' rfl f
  ·walk_at "e"
  ·walk_at "e"
  ·walk_at "e"
 rcases r with ⟨p,rfl,rfl,rfl,y⟩|⟨rfl,rfl,_,st⟩
 ·dsimp only[Q];rw[y]
  apply L_v
  ·omega
  ·rfl
  ·apply Qd Cm
   ·apply Qt
    ·apply YG ei e
    ·exact BW
   ·exact rfl
  ·walk_at "ext"
  ·exact rfl
 ·rw[List.take_length]at st
  dsimp only[Q];rw[st]
  apply L_v
  ·omega
  ·rfl
  ·apply Qd Cm
   ·apply Qt
    ·apply YG ei e
    ·apply Q2
     walk_at "ss"
   ·exact rfl
  ·walk_at "ext"
  ·exact rfl
end
end
section
structure Rw where
 nm:Nat
 vs:List Nat
 wl:Nat
structure Gu where
 rows:List Rw
 rs:List (Nat×List Nat)
 lu:Nat
 rl:Nat
 fr:Nat
 to:Option Nat
def bnd (u:Gu):PV:=.tup [.int (u.fr:Int),toV u.to]
def NM (r:Rw):PV:=.tup [.sym r.nm,.loc r.wl]
def rlV (u:Gu):PV:=.loc u.rl
def luV (u:Gu):PV:=.loc u.lu
structure Pl where
 le:Nat
 ld:Nat
 lw:Nat
 wd:Nat
 la:Nat
 du:Nat
def Vh (h:H)(r:Rw):Prop:=Nm r.nm∧L12 r.vs∧Wds r.vs∧h[r.wl]?=some (.lst (QU r.vs))
structure Lg (h:H) (u:Gu):Prop where
 lu:h[u.lu]?=some (.lst (u.rows.map NM))
 rl:h[u.rl]?=some (.lst (u.rs.map rsV))
 len:u.rows.length≤2∧u.rs.length≤2
 rows:∀r∈u.rows,Vh h r
 rs:∀x,x∈u.rs↔∃r∈u.rows,x=(r.nm,r.vs)
structure US (h:H) (us:List Gu) (ds:List PV) (p:Pl):Prop where
 e:h[p.le]?=some (.ins 3 [(21,.loc 32),(0,.loc p.ld)])
 d:h[p.ld]?=some (.dct (QH 0 (us.map rlV)))
 w:h[p.lw]?=some (.ins 4 [(27,.loc p.le),(0,.loc p.wd)])
 x:h[p.wd]?=some (.dct (QH 0 (us.map bnd)))
 l:h[p.la]?=some (.lst (us.map luV))
 u:h[p.du]?=some (.lst ds)
 g:∀u∈us,Lg h u
 len:us.length≤10
def Wh (us:List Gu)(p:Pl)(l:Nat):Prop:=l=p.le∨l=p.ld∨l=p.lw∨l=p.wd∨l=p.la∨l=p.du∨∃u∈us,l=u.lu∨l=u.rl∨∃r∈u.rows,l=r.wl
section
variable {h h':H} {us:List Gu} {p:Pl} {u:Gu} {ds:List PV}
theorem Lg.keep (G:Lg h u)(f:∀l,(l=u.lu∨l=u.rl∨∃r∈u.rows,l=r.wl)→h'[l]?=h[l]?):Lg h' u:=
 ⟨(f _ (Or.inl rfl)).trans G.lu,(f _ (Or.inr (Or.inl rfl))).trans G.rl,G.len,fun r hr=>⟨(G.rows r hr).1,(G.rows r hr).2.1,(G.rows r hr).2.2.1,(f _ (Or.inr (Or.inr ⟨r,hr,rfl⟩))).trans (G.rows r hr).2.2.2⟩,G.rs⟩
theorem US.keep (U:US h us ds p)(f:∀l,Wh us p l→h'[l]?=h[l]?):US h' us ds p:=
 ⟨(f _ (Or.inl rfl)).trans U.e,(f _ (Or.inr (Or.inl rfl))).trans U.d,(f _ (Or.inr (Or.inr (Or.inl rfl)))).trans U.w,(f _ (Or.inr (Or.inr (Or.inr (Or.inl rfl))))).trans U.x,(f _ (Or.inr (Or.inr (Or.inr (Or.inr (Or.inl rfl)))))).trans U.l,(f _ (Or.inr (Or.inr (Or.inr (Or.inr (Or.inr (Or.inl rfl))))))).trans U.u,
  fun u hu=>(U.g u hu).keep fun l q=>f l (Or.inr (Or.inr (Or.inr (Or.inr (Or.inr (Or.inr ⟨u,hu,q⟩)))))),U.len⟩
theorem US.lt (U:US h us ds p){l:Nat}(o:Wh us p l):l<h.length:=by
 rcases o with rfl|rfl|rfl|rfl|rfl|rfl|⟨u,hu,rfl|rfl|⟨r,hr,rfl⟩⟩
 ·exact Qc U.e
 ·exact Qc U.d
 ·exact Qc U.w
 ·exact Qc U.x
 ·exact Qc U.l
 ·exact Qc U.u
 ·exact Qc (U.g u hu).lu
 ·exact Qc (U.g u hu).rl
 ·exact Qc ((U.g u hu).rows r hr).2.2.2
theorem US.ext (U:US h us ds p)(E:Ext h h'):US h' us ds p:=U.keep fun l o=>E.old (U.lt o)
end
def uhB (gs:List Gm)(nm:Nat)(ws:List Nat)(v:Nat)(u:Gu):Bool:=u.rs.any (NK gs nm ws v)
def uhL (gs:List Gm)(nm:Nat)(ws:List Nat)(v:Nat)(us:List Gu):List Nat:=(List.range us.length).filter fun i=>match us[i]? with
 |some u=>uhB gs nm ws v u
 |none=>false
def YY (is:List Nat):List PV:=is.map fun i:Nat=>.int (i:Int)
section
variable {ns:List Int} {n nm k m nl v W:Nat} {h:H} {ws:List Nat} {gs:List Gm} {us:List Gu} {p:Pl} {x:Int} {ds:List PV}
theorem Dm {N:Nat}:∀is:List Nat,Yc N (YY is)=true
 |[]=>rfl
 |i::is=>by
  show(Yp N (.int _)&&Yc N (YY is))=true
  rw[Dm is]
  rfl
theorem Qbq (hn:20≤n)(T:TS h gs W)(U:US h us ds p)(hm:h[m]?=some (JR nm (Ql nm ws) nl x ((v+1:Nat):Int)))(hw:L12 ws)(dw:Wds ws):
  Qb ns n 34 [.loc p.le,.loc m] h=some (.loc h.length,h++[.lst (YY (uhL gs nm ws v us))]):=by
 have hle:=U.e
 have hld:=U.d
 have lus:=U.len
 have iD:Wm (QH 0 (us.map rlV))=some ((List.range us.length).map fun j:Nat=>(j:Int)):=by
  rw[UW,List.length_map,←List.range_eq_range']
 have rD:(Mr ((List.range us.length).map fun j:Nat=>(j:Int))&&Nat.blt ((List.range us.length).map fun j:Nat=>(j:Int)).length 64)=true:=by
  simp only[List.range_eq_range',IQ,List.length_map,List.length_range']
  exact Nat.ble_eq_true_of_le (Nat.lt_of_le_of_lt lus (by decide))
 have es:Wx (Qk (Qa 0) 0) (Qb ns (n - 1)) ns [.loc p.le,.loc m,.unb] h=some (.loc h.length,h++[.lst (((List.range us.length).map fun j:Nat=>(j:Int)).map .int)]):=by
  refine DM (l:=p.ld) ?_ hld iD rD
  walk_at "e"
 have X:=YO (C:=Qb ns (n - 1)) (ns:=ns) (t:=.one 2) (ifl:=[tE (Qx (Qa 0) 26 [(Qa 2),(Qa 1)])]) (e:=Qa 2) (it:=QO (Wx (Qk (Qa 0) 0))) (src:=.lst h.length) (ρ:=[.loc p.le,.loc m,.unb]) (h:=h) (h1:=h++[.lst (((List.range us.length).map fun j:Nat=>(j:Int)).map .int)]) (ps:=List.range us.length) (fun i=>.int (i:Int)) (fun i=>match us[i]? with|some u=>uhB gs nm ws v u|none=>false) (fun i=>.int (i:Int))
  (Np es (BL Qe)) rfl (by rw[List.length_range];omega)
  (by intro i h' E;simp only[YJ (E.get Qe),List.map_map,List.getElem?_map];rfl)
  (by
   intro i hi
   have hi:=List.mem_range.mp hi
   refine⟨[.loc p.le,.loc m,.int (i:Int)],rfl,?_,?_⟩
   ·intro h' E
    have E':Ext h h':=Ext.trans (.snoc .refl) E
    have eu:=List.getElem?_eq_getElem hi
    generalize us[i]=u at eu
    have U':=U.ext E'
    have G:=U'.g u (List.mem_of_getElem? eu)
    have hle':=U'.e
    have c:=Cg (ns:=ns) (n:=n - 1) (k:=i) (rl:=u.rl) (rs:=u.rs) (by omega) (T.ext E') U'.e U'.d (by simp only[List.getElem?_map,eu];rfl) G.rl (by have:=G.len.2;omega) (fun r hr=>by
     obtain⟨r',hr',rfl⟩:=(G.rs r).mp hr
     have:=G.rows r' hr'
     exact⟨this.1,this.2.1,this.2.2.1⟩) (E'.get hm) hw dw
    refine⟨h',?_,.refl⟩
    rewrite [eu]
    show Yk _ _ _ _ _=some (uhB gs nm ws v u,h')
    refine Ys (x:=uhB gs nm ws v u) (h₁:=h') ?_ ?_
    ·unfold uhB
     walk_at "t"
    ·cases uhB gs nm ws v u<;>exact rfl
   ·intro _ h' E
    refine⟨h',?_,.refl⟩
    walk_at "e")
 obtain⟨h',e,E⟩:=X
 have el:h'[(h++[AO.lst (((List.range us.length).map fun j:Nat=>(j:Int)).map .int)]).length]?=some (.lst (YY (uhL gs nm ws v us))):=E.get Qe
 refine L_n (by omega) rfl ?_ (Ext.trans (.snoc (.snoc .refl)) E) (by simp) el (Dm _)
 apply Qd QbC
 ·apply Qt
  ·apply NB e
  ·exact BW
 ·exact rfl
end
end
section
section
variable {ns:List Int} {n f l le lw wd k w t:Nat} {h h':H} {vs ps args:List PV} {u:Gu}
theorem RU (hn:1≤n)(lo:Jb f=false)(e:Q0 (Qb ns (n - 1)) ns f args h=some (.loc l,h'))(hl:h.length≤l)(hp:h'[l]?=some (.lst ps))(len:h.length≤h'.length):
  ∃l₂ h₂,Qb ns n f args h=some (.loc l₂,h₂)∧h.length≤l₂∧h₂[l₂]?=some (.lst ps)∧h.length≤h₂.length∧∀k,k<h.length→h₂[k]?=h'[k]?:=by
 by_cases q:h'.take h.length=h
 ·have E:Ext h h':=⟨h'.drop h.length,by have:=List.take_append_drop h.length h';rw[q]at this;exact this.symm⟩
  obtain⟨l₂,h₂,a,b,c,d⟩:=Oi hn lo e E hl hp
  exact⟨l₂,h₂,a,c,d,b.le,fun k hk=>by simp only[b.old hk,E.old hk]⟩
 ·refine⟨l,h',L_k hn lo e ?_,hl,hp,len,fun Z Z=>rfl⟩
  unfold gcU
  dsimp only
  rw[if_neg q]
theorem DT (hn:1≤n):Qb ns n 35 [.loc h.length,.loc le] (h++[.ins 4 []])=some (.none,h++[.ins 4 [(27,.loc le),(0,.loc (h++[AO.ins 4 [(27,.loc le)]]).length)]]++[.dct []]):=by
 refine Zt hn rfl ?_ Qe (Qf Qe) (by intro q;cases q)
 apply Qd Qbs
 ·walk_at "body"
 ·exact rfl
theorem Fw (hn:1≤n)(hlw:h[lw]?=some (.ins 4 [(27,.loc le),(0,.loc wd)]))(hwd:h[wd]?=some (.dct (QH 0 vs)))(lv:vs.length≤50)(s:Y0 h wd (.dct (QH 0 (vs++[.tup [.int (w:Int),.none]]))) h'):
  Qb ns n 36 [.loc lw,.int (vs.length:Int),.int (w:Int)] h=some (.none,h'):=by
 have f:QP (.int (vs.length:Int)) (QH 0 vs)=some none:=by rw[Ye,List.getElem?_eq_none (Nat.le_refl _)]
 have sh:QG (QH 0 vs)=true:=Nat.ble_eq_true_of_le (by rw[Ju];unfold CAP;omega)
 rw[←Wy]at s
 have a2:h'[wd]?=some (.dct (JG (.int (vs.length:Int)) (.tup [.int (w:Int),.none]) (QH 0 vs))):=by
  refine q0 ?_;intro Q;unfold Y0 at s
  dsimp only[Q];rw[←s]
  exact List.getElem?_set_self (Qc hwd)
 refine Zt hn rfl ?_ hwd a2 ?_
 ·apply Qd QaO
  ·walk_at "body"
  ·exact rfl
 ·intro q
  simp only[Wy]at q
  have:=congrArg (fun o=>match o with|AO.dct l=>l.length|_=>0) q
  simp[Ju]at this
theorem RB {N:Nat}:Yp N (bnd u)=true:=by
 delta bnd toV
 cases u.to<;>rfl
theorem Fj (hn:1≤n)(hlw:h[lw]?=some (.ins 4 [(27,.loc le),(0,.loc wd)]))(hwd:h[wd]?=some (.dct (QH 0 vs)))(hk:vs[k]?=some (bnd u)):
  Qb ns n 37 [.loc lw,.int (k:Int)] h=some (bnd u,h):=by
 have f:QP (.int (k:Int)) (QH 0 vs)=some (some (bnd u)):=by simp only[Ye,hk]
 apply L_v
 ·omega
 ·rfl
 ·apply Qd QaM
  ·walk_at "body"
  ·exact rfl
 ·walk_at "ext"
 ·exact RB
def MP (w:Nat)(u:Gu):Bool:=Nat.ble u.fr w&&(match u.to with
 |none=>true
 |some t=>Nat.blt w t)
theorem K8 (hn:1≤n)(hlw:h[lw]?=some (.ins 4 [(27,.loc le),(0,.loc wd)]))(hwd:h[wd]?=some (.dct (QH 0 vs)))(hk:vs[k]?=none):
  Qb ns n 38 [.loc lw,.int (k:Int),.int (w:Int)] h=some (.bool false,h):=by
 have f:QP (.int (k:Int)) (QH 0 vs)=some none:=by simp only[Ye,hk]
 apply L_v
 ·omega
 ·rfl
 ·apply Qd Sn
  ·walk_at "body"
  ·exact rfl
 ·walk_at "ext"
 ·exact rfl
theorem Kv {i j:Nat}:(fun a b:Int=>decide (a≤b)) (i:Int) (j:Int)=Nat.ble i j:=by
 show decide ((i:Int)≤(j:Int))=_
 cases q:Nat.ble i j with
 |true=>
  have:=Nat.le_of_ble_eq_true q
  simp;omega
 |false=>
  have:¬i≤j:=fun c=>by rw[Nat.ble_eq_true_of_le c]at q;cases q
  simp;exact o274 this
theorem R9 (hn:1≤n)(hlw:h[lw]?=some (.ins 4 [(27,.loc le),(0,.loc wd)]))(hwd:h[wd]?=some (.dct (QH 0 vs)))(hk:vs[k]?=some (bnd u)):
  Qb ns n 38 [.loc lw,.int (k:Int),.int (w:Int)] h=some (.bool (MP w u),h):=by
 have f:QP (.int (k:Int)) (QH 0 vs)=some (some (bnd u)):=by simp only[Ye,hk]
 clear hk;obtain⟨_,_,_,_,fr,to⟩:=u
 have c1:(fun a b:Int=>decide (a≤b)) (fr:Int) (w:Int)=Nat.ble fr w:=Kv
 unfold bnd at f
 dsimp only at f
 cases q:Nat.ble fr w with
 |false=>
  rw[q]at c1
  apply L_v
  ·omega
  ·rfl
  ·apply Qd Sn
   ·walk_at "body"
   ·simp only[MP,q];rfl
  ·walk_at "ext"
  ·exact rfl
 |true=>
  rw[q]at c1
  cases to with
  |none=>
   unfold toV at f
   apply L_v
   ·omega
   ·rfl
   ·apply Qd Sn
    ·walk_at "body"
    ·simp only[MP,q];rfl
   ·walk_at "ext"
   ·exact rfl
  |some t=>
   unfold toV at f
   dsimp only at f
   have c2:(fun a b:Int=>decide (a<b)) (w:Int) (t:Int)=Nat.blt w t:=IM
   apply L_v
   ·omega
   ·rfl
   ·apply Qd Sn
    ·walk_at "body"
    ·show PV.bool ((fun a b:Int=>decide (a<b)) (w:Int) (t:Int))=_
     rw[c2]
     simp only[MP,q];rfl
   ·walk_at "ext"
   ·exact rfl
theorem Vq (hn:1≤n)(hlw:h[lw]?=some (.ins 4 [(27,.loc le),(0,.loc wd)]))(hwd:h[wd]?=some (.dct (QH 0 vs)))(lv:vs.length≤50)(hk:vs[k]?=some (bnd u))(to:u.to=none)(s:Y0 h wd (.dct (QH 0 (vs.set k (bnd {u with to:=some t})))) h'):
  Qb ns n 39 [.loc lw,.int (k:Int),.int (t:Int)] h=some (.none,h'):=by
 refine q0 ?_;intro Q;have f:QP (.int (k:Int)) (QH 0 vs)=some (some (bnd u)):=by simp only[Ye,hk]
 have f2:QP (.int (k:Int)) (QH 0 (vs.set k (bnd {u with to:=some t})))=some (some (bnd {u with to:=some t})):=by simp only[Ye,List.getElem?_set_self (Qc hk)]
 have sh:QG (QH 0 vs)=true:=Nat.ble_eq_true_of_le (by rw[Ju];unfold CAP;omega)
 have a2:h'[wd]?=some (.dct (QH 0 (vs.set k (bnd {u with to:=some t})))):=by
  unfold Y0 at s
  simp only[←s]
  exact List.getElem?_set_self (Qc hwd)
 obtain⟨r0,r1,r2,r3,fr,to'⟩:=u
 dsimp only at to
 subst to
 refine Zt hn rfl ?_ hwd a2 ?_
 ·rw[←GN (Qc hk)]at s
  unfold bnd toV at f s
  dsimp only at f s
  apply Qd QaH
  ·walk_at "body"
  ·exact rfl
 ·intro q
  have:=AO.dct.inj q
  simp only[←this,f]at f2
  have:=Option.some.inj (Option.some.inj f2)
  unfold bnd toV at this
  simp at this
end
end
section
def ZR (us:List Gu)(i:Nat):Bool:=match us[i]? with
 |some u=>u.to.isNone
 |none=>false
def Y9 (S:List Nat)(t:Nat)(us:List Gu):List Gu:=us.mapIdx fun i u=>if i∈S then{u with to:=some t}else u
theorem JV {S:List Nat}{t i:Nat}{us:List Gu}:(Y9 S t us)[i]?=us[i]?.map fun u=>if i∈S then{u with to:=some t}else u:=by
 unfold Y9
 simp only[List.getElem?_mapIdx]
theorem Bm {S:List Nat}{t:Nat}{us:List Gu}:(Y9 S t us).length=us.length:=by
 unfold Y9
 rw[List.length_mapIdx]
theorem BJ {t:Nat}{us:List Gu}:Y9 [] t us=us:=by
 apply List.ext_getElem?
 intro i
 rw[JV]
 cases us[i]? with
 |none=>rfl
 |some u=>simp
theorem Gj {S:List Nat}{t i:Nat}{us:List Gu}{u:Gu}(e:us[i]?=some u):((Y9 S t us).map bnd).set i (bnd {u with to:=some t})=(Y9 (S++[i]) t us).map bnd:=by
 apply List.ext_getElem?
 intro j
 simp only[List.getElem?_set,List.getElem?_map,List.getElem?_map,JV,JV]
 have li:=Qc e
 by_cases q:i=j
 ·subst q
  rewrite [if_pos rfl,if_pos (by simp only[List.length_map,Bm];exact li),e]
  simp
 ·rw[if_neg q]
  cases us[j]? with
  |none=>rfl
  |some w=>
   have:(j∈S++[i])↔j∈S:=by
    rw[List.mem_append,List.mem_singleton]
    exact⟨fun o=>o.elim id fun e=>absurd e.symm q,Or.inl⟩
   simp only[Option.map_some,this]
section
variable {ns:List Int} {n nm k m nl v W:Nat} {h:H} {ws:List Nat} {gs:List Gm} {us:List Gu} {p:Pl} {x:Int} {ds:List PV}
theorem XN (hn:22≤n)(T:TS h gs W)(U:US h us ds p)(hm:h[m]?=some (JR nm (Ql nm ws) nl x ((v+1:Nat):Int)))(hw:L12 ws)(dw:Wds ws):
  ∃l h',Qb ns n 40 [.loc p.lw,.loc m] h=some (.loc l,h')∧h.length≤l∧h'[l]?=some (.lst (YY ((uhL gs nm ws v us).filter (ZR us))))∧h.length≤h'.length∧(∀k,k<h.length→k≠p.wd→h'[k]?=h[k]?)∧h'[p.wd]?=some (.dct (QH 0 ((Y9 ((uhL gs nm ws v us).filter (ZR us)) (v+1) us).map bnd))):=by
 have hlw:=U.w
 have hle:=U.e
 have lus:=U.len
 have cu:=Qbq (ns:=ns) (n:=n - 1) (by omega) T U hm hw dw
 have nd:((uhL gs nm ws v us).filter (ZR us)).Nodup:=List.Nodup.sublist List.filter_sublist (List.Nodup.sublist List.filter_sublist List.nodup_range)
 have lh:(uhL gs nm ws v us).length≤10:=by
  have a:=List.length_filter_le (fun i=>match us[i]? with|some u=>uhB gs nm ws v u|none=>false) (List.range us.length)
  rw[List.length_range]at a
  exact Nat.le_trans a lus
 have mem:∀i∈uhL gs nm ws v us,i<us.length:=fun i hi=>List.mem_range.mp (List.mem_filter.mp hi).1
 generalize uhL gs nm ws v us=hl at*
 have X:=YO (C:=Qb ns (n - 1)) (ns:=ns) (t:=.one 4) (ifl:=[(Yk [(tE (eIn (Qa 4) (Qk (Qa 0) 0))),(tE (eIs (Qi (Qi (Qk (Qa 0) 0) (Qa 4)) (Qj 1)) QT))])]) (e:=Qa 4) (it:=QO (Qx (Qk (Qa 0) 27) 28 [(Qa 1)])) (src:=.lst h.length) (ρ:=[.loc p.lw,.loc m,.unb,.unb,.unb]) (h:=h) (h1:=h++[.lst (YY hl)]) (ps:=hl) (fun i:Nat=>.int (i:Int)) (ZR us) (fun i:Nat=>.int (i:Int))
  (by walk_at "i") rfl (by omega)
  (by intro i h' E;rw[YJ (E.get Qe)];unfold YY;rw[List.getElem?_map])
  (by
   intro i hi
   have hi:=mem i hi
   have eu:=List.getElem?_eq_getElem hi
   generalize us[i]=u at eu
   refine⟨[.loc p.lw,.loc m,.unb,.unb,.int (i:Int)],rfl,?_,?_⟩
   ·intro h' E
    have U':=U.ext (Ext.trans (.snoc .refl) E)
    have hlw':=U'.w
    have hwd':=U'.x
    have f:QP (.int (i:Int)) (QH 0 (us.map bnd))=some (some (bnd u)):=by simp only[Ye,List.getElem?_map,eu];rfl
    refine⟨h',?_,.refl⟩
    unfold bnd at f
    unfold ZR
    rw[eu]
    show Yk _ _ _ _ _=some (u.to.isNone,h')
    cases et:u.to with
    |none=>
     rw[et]at f
     unfold toV at f
     refine Ys (x:=true) (h₁:=h') ?_ rfl
     walk_at "t"
    |some t=>
     simp only[et]at f
     unfold toV at f
     dsimp only at f
     refine Ys (x:=false) (h₁:=h') ?_ rfl
     walk_at "t"
   ·intro _ h' E
    refine⟨h',?_,.refl⟩
    walk_at "e")
 obtain⟨h2,e2,E2⟩:=X
 have el2:h2[(h++[AO.lst (YY hl)]).length]?=some (.lst (YY (hl.filter (ZR us)))):=E2.get Qe
 have E02:Ext h h2:=Ext.trans (.snoc (.snoc .refl)) E2
 have U2:=U.ext E02
 have fl:(hl.filter (ZR us)).length≤10:=Nat.le_trans (List.length_filter_le _ _) lh
 have fal:∀i∈hl.filter (ZR us),∃u,us[i]?=some u∧u.to=none:=fun i hi=>by
  have:=(List.mem_filter.mp hi).2
  unfold ZR at this
  cases e:us[i]? with
  |none=>rw[e]at this;cases this
  |some u=>rw[e]at this;exact⟨u,rfl,Option.isNone_iff_eq_none.mp this⟩
 generalize hl.filter (ZR us)=fs at*
 refine q0 ?_;intro Q
 have len:(YY fs).length=fs.length:=List.length_map _
 have H:=Q4 (t:=.one 3) (body:=QN [(sExp (Qx (Qa 0) 29 [(Qa 3),(Qk (Qa 1) 24)]))]) (src:=.lst (h++[AO.lst (YY hl)]).length) (C:=Qb ns (n - 1)) (ns:=ns) (K:=fs.length) (items:=fun j=>(YY fs).getD j .unb)
  (fun j ρ h'=>(∃x,ρ=[.loc p.lw,.loc m,.loc (h++[AO.lst (YY hl)]).length,x,.unb])∧(∀k,k≠p.wd→h'[k]?=h2[k]?)∧h'.length=h2.length∧h'[p.wd]?=some (.dct (QH 0 ((Y9 (fs.take j) (v+1) us).map bnd))))
  (fun p h'=>False)
  (by
   rintro j ρ h' ⟨_,f,_,_⟩
   rw[YJ ((f _ (QY el2 U2.x (by simp))).trans el2)]
   split
   ·rename_i c
    rewrite [List.getElem?_eq_getElem (by rw[len];exact c),List.getD_eq_getElem?_getD,List.getElem?_eq_getElem (by rw[len];exact c)]
    rfl
   ·rename_i c
    rw[List.getElem?_eq_none (by rw[len];exact o34 len c)])
  (by
   intro j ρ h' lt hI;obtain⟨⟨y,rfl⟩,f,lh',ex⟩:=hI
   have ei:=List.getElem?_eq_getElem lt
   generalize fs[j]=i at ei
   have it:(YY fs).getD j .unb=.int (i:Int):=by
    unfold YY
    simp only[List.getD_eq_getElem?_getD,List.getElem?_map,ei]
    rfl
   rw[it]
   obtain⟨u,eu,ut⟩:=fal i (List.mem_of_getElem? ei)
   refine⟨[.loc p.lw,.loc m,.loc (h++[AO.lst (YY hl)]).length,.int (i:Int),.unb],rfl,?_⟩
   refine q0 ?_;intro Q;have hj:=Y1 ei
   have ni:i∉fs.take j:=fun q=>by
    obtain⟨a,ha⟩:=List.mem_iff_getElem?.mp q
    obtain⟨la,ea⟩:=Zs ha
    have:=(List.getElem?_inj (Qc ea) nd).mp (ea.trans ei.symm)
    omega
   have hk:((Y9 (fs.take j) (v+1) us).map bnd)[i]?=some (bnd u):=by
    simp only[List.getElem?_map,JV,eu]
    simp[ni]
   have hlw':h'[p.lw]?=_:=(f _ (QY U2.w U2.x (by simp))).trans U2.w
   have hm2:=E02.get hm
   have hm':h'[m]?=_:=(f _ (QY hm2 U2.x (by unfold JR;simp))).trans hm2
   unfold JR at hm'
   obtain⟨h3,r3,a3,b3,l3,_⟩:=QC ex (.dct (QH 0 (((Y9 (fs.take j) (v+1) us).map bnd).set i (bnd {u with to:=some (v+1)}))))
   have ce:=Vq (ns:=ns) (n:=n - 1) (t:=v+1) (by omega) hlw' ex (by simp only[List.length_map,Bm];omega) hk ut r3
   refine⟨.nxt,[.loc p.lw,.loc m,.loc (h++[AO.lst (YY hl)]).length,.int (i:Int),.unb],h3,?_,Or.inr ⟨Or.inl rfl,⟨_,rfl⟩,fun k hk=>(b3 k hk).trans (f k hk),l3.trans lh',?_⟩⟩
   ·walk_at "ss"
   ·simp only[a3,Gj eu,hj])
  fs.length 0 64 [.loc p.lw,.loc m,.loc (h++[AO.lst (YY hl)]).length,.unb,.unb] h2 (by exact o30) (by exact o63 len fl) ⟨⟨_,rfl⟩,fun Z Z=>rfl,rfl,by simp only[List.take_zero,BJ];exact U2.x⟩
 obtain⟨fl',ρ',h3,e3,r⟩:=H
 rcases r with ⟨q,rfl,F⟩|⟨rfl,⟨y,rfl⟩,f,l3,ex⟩
 ·exact F.elim
 rw[List.take_length]at ex
 have el3:h3[(h++[AO.lst (YY hl)]).length]?=some (.lst (YY fs)):=(f _ (QY el2 U2.x (by simp))).trans el2
 have st:Q0 (Qb ns (n - 1)) ns 40 [.loc p.lw,.loc m] h=some (.loc (h++[AO.lst (YY hl)]).length,h3):=by
  apply Qd Qbw
  ·apply Qt
   ·apply ZL e2
    walk_at "set"
   apply Q2
   apply Qt
   ·apply YG
    ·walk_at "i"
    ·exact e3
   apply Q2
   walk_at "ss"
  ·exact rfl
 obtain⟨l₂,h₂,c,a,b,d,g⟩:=RU (by omega) rfl st (by simp) el3 (l3▸E02.le)
 exact⟨l₂,h₂,c,a,b,d,fun k hk ne=>by simp only[g k hk,f k ne,E02.old hk],by simp only[g _ (Qc U.x),ex]⟩
end
end
section
section
variable {f:Gm→Gm} {vs:List Nat} {L:List Gm}
theorem TT (fw:∀g,(f g).ws=g.ws)(g:Gm):hid (L.map f) vs (f g)=hid L vs g:=by
 unfold hid
 rw[List.any_map]
 congr 1
 funext o
 show BB vs (f g) (f o)=BB vs g o
 unfold BB
 rw[fw,fw]
theorem Lo (fw:∀g,(f g).ws=g.ws)(g:Gm):Jd (L.map f) (f g)=Jd L g:=by
 unfold Jd
 rw[List.all_map]
 congr 1
 funext o
 show(eqW (f o).ws (f g).ws||leW (f g).ws (f o).ws)=_
 rw[fw,fw]
theorem LS (fw:∀g,(f g).ws=g.ws):fitL vs (L.map f)=(fitL vs L).map f:=by
 unfold fitL
 rw[List.filter_map]
 congr 1
 refine List.filter_congr fun g Z=>?_
 show leW vs (f g).ws=_
 rw[fw]
theorem FX (fw:∀g,(f g).ws=g.ws):metL vs (L.map f)=(metL vs L).map f:=by
 unfold metL
 rw[List.filter_map]
 congr 1
 refine List.filter_congr fun g Z=>?_
 show mtW vs (f g).ws=_
 rw[fw]
theorem Td (fw:∀g,(f g).ws=g.ws):mayL vs (L.map f)=(mayL vs L).map f:=by
 unfold mayL
 rw[List.filter_map]
 congr 1
 refine List.filter_congr fun g Z=>?_
 show(!hid (L.map f) vs (f g))=_
 rw[TT fw]
theorem D0 {α:Type}{p q:α→Bool}{f:α→α}(h:∀a,p (f a)=q a):∀L:List α,(L.map f).find? p=(L.find? q).map f
 |[]=>rfl
 |a::L=>by
  simp only[List.map_cons,List.find?_cons,List.find?_cons,h]
  cases q a with
  |true=>rfl
  |false=>exact D0 h L
theorem EY (fw:∀g,(f g).ws=g.ws):aL (L.map f)=(aL L).map f:=by
 unfold aL
 rw[D0 (q:=Jd L) (fun g=>Lo fw g)]
 cases L.find? (Jd L)<;>rfl
theorem FP (fw:∀g,(f g).ws=g.ws):Y8 vs (L.map f)=(Y8 vs L).map f:=by
 unfold Y8
 rw[LS fw,EY fw,FX fw,Td fw]
 cases vs.all Z3<;>rfl
theorem SH (fn:∀g,(f g).num=g.num):(L.map f).map (·.num)=L.map (·.num):=by
 rw[List.map_map]
 exact List.map_congr_left fun g Z=>fn g
theorem HF:fitL vs L=fitL vs (metL vs L):=by
 unfold fitL metL
 simp only[List.filter_filter]
 refine List.filter_congr fun g Z=>?_
 cases q:leW vs g.ws with
 |false=>rfl
 |true=>rw[(FW q).1];rfl
theorem Sh {L':List Gm}(e:metL vs L=metL vs L'):Y8 vs L=Y8 vs L':=by
 unfold Y8
 rw[HF,HF (L:=L'),e]
end
section
variable {gs:List Gm} {W nm rn m nl wl:Nat} {ws vs:List Nat}
def Wf (W:Nat)(gs:List Gm):Prop:=∀g∈gs,Nm g.nm∧L12 g.ws∧Wds g.ws∧g.fr≤W∧∀t,g.to=some t→t≤W
theorem UF (wf:Wf W gs):WH nm gs=QL nm W gs:=by
 delta WH QL
 refine List.filter_congr fun g hg=>?_
 obtain⟨_,_,_,fr,to⟩:=wf g hg
 unfold Do liveB
 simp only[Nat.ble_eq_true_of_le fr,Bool.true_and,Bool.and_comm]
 congr 1
 cases e:g.to with
 |none=>rfl
 |some t=>
  have:=to t e
  show false=Nat.blt W t
  cases q:Nat.blt W t with
  |false=>rfl
  |true=>exact absurd (Nat.le_of_ble_eq_true q) (Nat.not_le.mpr (Nat.lt_succ_of_le this))
theorem HH (wf:Wf W gs)(nu:∀(i:Nat) (g:Gm),gs[i]?=some g→g.num=i)(nd:gs.Pairwise fun a b=>∀w,a.nm=b.nm→liveB w a=true→liveB w b=true→a.ws≠b.ws):Dst (WH nm gs):=by
 rw[UF wf]
 have P:=List.pairwise_iff_getElem.mp nd
 have ne:∀(i j:Nat) (a b:Gm),gs[i]?=some a→gs[j]?=some b→i≠j→a.nm=b.nm→liveB W a=true→liveB W b=true→a.ws≠b.ws:=by
  intro i j a b ea eb ij hn la lb
  obtain⟨hi,rfl⟩:=List.getElem?_eq_some_iff.mp ea
  obtain⟨hj,rfl⟩:=List.getElem?_eq_some_iff.mp eb
  rcases Nat.lt_or_gt_of_ne ij with c|c
  ·exact P i j hi hj c W hn la lb
  ·exact(P j i hj hi c W hn.symm lb la).symm
 refine⟨?_,fun a ha b hb=>?_,fun g hg=>(wf g (Jq hg).1).2.2.1⟩
 ·unfold QL List.Nodup
  rw[List.pairwise_map,List.pairwise_filter]
  refine nd.imp ?_
  intro a b q ha hb
  simp only[Bool.and_eq_true]at ha hb
  exact q W ((Nat.eq_of_beq_eq_true ha.1).trans (Nat.eq_of_beq_eq_true hb.1).symm) ha.2 hb.2
 ·obtain⟨ma,na,la⟩:=Jq ha
  obtain⟨mb,nb,lb⟩:=Jq hb
  clear hb;obtain⟨i,ei⟩:=List.mem_iff_getElem?.mp ma
  obtain⟨j,ej⟩:=List.mem_iff_getElem?.mp mb
  rw[nu i a ei,nu j b ej]
  by_cases q:i=j
  ·subst q
   rw[ei]at ej
   cases ej
   rw[Nat.beq_refl,Q7.mpr rfl]
  ·rw[Yo q]
   cases z:eqW a.ws b.ws with
   |false=>rfl
   |true=>exact absurd (Q7.mp z) (ne i j a b ei ej q (na.trans nb.symm) la lb)
theorem GF {g:Gm}(fr:g.fr≤W):liveB W (Yi nm ws (W+1) g)=liveB W g:=by
 rw[Bool.eq_iff_iff]
 refine⟨WB,fun l=>?_⟩
 rw[Jp]at l ⊢
 rw[IY]
 refine⟨l.1,fun t e=>?_⟩
 rcases ZP (nm:=nm) (ws:=ws) (t:=W+1) (g:=g)with r|⟨_,_,_,r⟩
 ·exact l.2 t (r.symm.trans e)
 ·rewrite [r]at e
  cases e
  exact o275
theorem D4 (wf:Wf W gs):QL rn W (Yy nm ws m nl wl W gs)=(QL rn W gs).map (Yi nm ws (W+1)):=by
 unfold QL Yy
 simp only[List.filter_append,List.filter_map]
 have z:List.filter (fun g:Gm=>Nat.beq g.nm rn&&liveB W g) [⟨gs.length,nm,ws,m,nl,wl,W+1,none⟩]=[]:=by
  refine List.filter_eq_nil_iff.mpr fun g hg=>?_
  cases List.mem_singleton.mp hg
  rw[Bool.and_eq_true]
  rintro ⟨_,l⟩
  have:W+1≤W:=(Jp.mp l).1
  exact o276 this
 simp only[z,List.append_nil]
 congr 1
 refine List.filter_congr fun g hg=>?_
 show(Nat.beq (Yi nm ws (W+1) g).nm rn&&liveB W (Yi nm ws (W+1) g))=_
 rw[JZ,GF (wf g hg).2.2.2.1]
theorem Ow {g:Gm}(fr:g.fr≤W)(to:∀t,g.to=some t→t≤W):liveB (W+1) g=liveB W g:=by
 rw[Bool.eq_iff_iff,Jp,Jp]
 refine⟨fun⟨a,b⟩=>⟨fr,fun t e=>?_⟩,fun⟨a,b⟩=>⟨by exact o61 fr,fun t e=>?_⟩⟩
 ·have:=b t e;exact o277 this
 ·have:=b t e;have:=to t e;exact o278 (by assumption) this
theorem FM (wf:Wf W gs)(q:rn≠nm∨mtW vs ws=false):metL vs (QL rn (W+1) (Yy nm ws m nl wl W gs))=metL vs (QL rn W gs):=by
 delta metL QL Yy
 rw[List.filter_filter,List.filter_filter,List.filter_append,List.filter_map]
 have z:List.filter (fun g:Gm=>mtW vs g.ws&&(Nat.beq g.nm rn&&liveB (W+1) g)) [⟨gs.length,nm,ws,m,nl,wl,W+1,none⟩]=[]:=by
  refine List.filter_eq_nil_iff.mpr fun g hg=>?_
  cases List.mem_singleton.mp hg
  simp only[Bool.and_eq_true,Bool.and_eq_true]
  rintro ⟨a,b,_⟩
  rcases q with q|q
  ·exact q (Nat.eq_of_beq_eq_true b).symm
  ·rw[q]at a;cases a
 rw[z,List.append_nil]
 have e:∀g∈gs,(mtW vs g.ws&&(Nat.beq g.nm rn&&liveB W g))=true→Yi nm ws (W+1) g=g:=by
  intro g hg k
  simp only[Bool.and_eq_true,Bool.and_eq_true]at k
  unfold Yi
  split
  ·rename_i c
   unfold stk
   rw[if_neg]
   intro y
   rw[Bool.and_eq_true]at y
   rcases q with q|q
   ·exact q ((Nat.eq_of_beq_eq_true k.2.1).symm.trans (Nat.eq_of_beq_eq_true c))
   ·rw[←Q7.mp y.2,k.1]at q;cases q
  ·rfl
 have same:List.filter ((fun g:Gm=>mtW vs g.ws&&(Nat.beq g.nm rn&&liveB (W+1) g))∘Yi nm ws (W+1)) gs=List.filter (fun g:Gm=>mtW vs g.ws&&(Nat.beq g.nm rn&&liveB W g)) gs:=by
  refine List.filter_congr fun g hg=>?_
  obtain⟨_,_,_,fr,to⟩:=wf g hg
  show(mtW vs (Yi nm ws (W+1) g).ws&&(Nat.beq (Yi nm ws (W+1) g).nm rn&&liveB (W+1) (Yi nm ws (W+1) g)))=_
  rw[J9,JZ]
  cases k:(mtW vs g.ws&&(Nat.beq g.nm rn&&liveB W g))with
  |true=>
   rw[e g hg k,Ow fr to]
   exact k
  |false=>
   cases y:(mtW vs g.ws&&(Nat.beq g.nm rn&&liveB (W+1) (Yi nm ws (W+1) g)))with
   |false=>rfl
   |true=>
    simp only[Bool.and_eq_true,Bool.and_eq_true]at y
    have:=WB y.2.2
    rw[Ow fr to]at this
    simp only[y.1,y.2.1,this]at k
    cases k
 rw[same]
 conv=>rhs;rw[←List.map_id (List.filter _ gs)]
 refine List.map_congr_left fun g hg=>?_
 obtain⟨a,b⟩:=List.mem_filter.mp hg
 exact e g a b
theorem Pk (wf:Wf W gs)(nu:∀(i:Nat) (g:Gm),gs[i]?=some g→g.num=i)(nd:gs.Pairwise fun a b=>∀w,a.nm=b.nm→liveB w a=true→liveB w b=true→a.ws≠b.ws)
  (hN:Nm nm) (hw:L12 ws) (dw:Wds ws) (dv:Wds vs):NK (Yy nm ws m nl wl W gs) nm ws W (rn,vs)=!eqNs (laL rn vs gs) (laL rn vs (Yy nm ws m nl wl W gs)):=by
 have wf':Wf (W+1) (Yy nm ws m nl wl W gs):=Ig hN hw dw wf
 clear hN;simp only[Xd (HH wf nu nd) dv,Xd (HH wf' (Iz nu) (Pb wf nd)) dv,UF wf,UF wf']
 clear wf';have e1:eqNs (Y8 vs (QL rn W (Yy nm ws m nl wl W gs))) (Y8 vs (QL rn (W+1) (Yy nm ws m nl wl W gs)))=eqNs (Y8 vs (QL rn W gs)) (Y8 vs (QL rn (W+1) (Yy nm ws m nl wl W gs))):=by
  unfold eqNs
  rw[D4 wf,FP (fun g=>J9),SH (fun g=>Uk)]
 unfold NK
 dsimp only
 rw[Th,e1]
 clear e1;have same:(rn≠nm∨mtW vs ws=false)→eqNs (Y8 vs (QL rn W gs)) (Y8 vs (QL rn (W+1) (Yy nm ws m nl wl W gs)))=true:=fun q=>by
  rw[Sh (FM wf q)]
  unfold eqNs
  exact decide_eq_true rfl
 by_cases q:rn=nm
 ·subst q
  rw[Nat.beq_refl,Bool.true_and]
  cases k:mtW vs ws with
  |true=>rfl
  |false=>rw[same (Or.inr k)];rfl
 ·rw[Yo q,same (Or.inl q)]
  rfl
end
end
section
section
variable {ns:List Int} {n d l l' e el el' nm u:Nat} {h h':H} {ds:List (PV×PV)} {q:PV} {a:Bool}
def JD (n:Nat)(p:PV)(a:Bool)(l l':Nat):AO:=.ins 5 [(30,.sym n),(31,.loc l),(32,p),(33,.bool a),(34,.bool false),(35,.loc l')]
theorem Ln {p:PV}{l1 l2:Nat}(hn:1≤n)(h1:h[l1]?=some (.lst []))(h2:h[l2]?=some (.lst []))(kp:J4 p=true):Qb ns n 41 [.loc h.length,.sym nm,.loc l1,p,.bool a,.bool false,.loc l2] (h++[.ins 5 []])=some (.none,h++[JD nm p a (h.length+1) (h.length+2)]++[.lst []]++[.lst []]):=by
 unfold JD
 have q1:h.length+1=(h++[AO.ins 5 [(30,.sym nm)]]).length:=by simp
 have q2:h.length+2=(h++[AO.ins 5 [(30,.sym nm),(31,.loc (h++[AO.ins 5 [(30,.sym nm)]]).length),(32,p),(33,.bool a),(34,.bool false)]]++[AO.lst []]).length:=by simp
 rw[q2,q1]
 refine Zt hn rfl ?_ Qe (Qf (Qf Qe)) (by intro q;cases q)
 apply Qd QaP
 ·walk_at "body"
 ·exact rfl
theorem Zk (hn:2≤n)(h1:h[1]?=some (.ins 6 [(36,.loc 6)]))(h6:h[6]?=some (.dct ds))(hd:h[d]?=some (JD nm (kOf u) a l l'))(hl:h[l]?=some (.lst []))(hl':h[l']?=some (.lst []))(f1:QP (.sym nm) ds=some none)(f2:QP (.sym u) ds=some (some (.loc e)))(he:h[e]?=some (JD u q true el el'))(hel:h[el]?=some (.lst []))(u13:Nat.beq u 13=false)(sh:QG ds=true)
  (lo:(h.set 6 (.dct (JG (.sym nm) (.loc d) ds))).all (JI h.length)=true):Qb ns n 44 [.loc 1,.loc d] h=some (.none,h.set 6 (.dct (JG (.sym nm) (.loc d) ds))):=by
 obtain⟨n,rfl⟩:∃m,n=m+1:=⟨n - 1,by omega⟩
 obtain⟨h2,r2,a2,b2,l2,_⟩:=QC h6 (.dct (JG (.sym nm) (.loc d) ds))
 have e13:∀h,eqV h EQ (kOf u) Ku=some (Nat.beq u 13):=fun h=>eqk (h:=h) (w:=u) (v:=13) 3
 have st:∃X,Q0 (Qb ns n) ns 44 [.loc 1,.loc d] h=some (.none,h2++X):=by
  unfold JD kOf at*
  have e13':=(e13 h).trans (congrArg some u13)
  refine⟨[.lst []]++[.lst []]++[.lst []]++[.lst []]++[.dct []],?_⟩
  simp only[show h2++([AO.lst []]++[.lst []]++[.lst []]++[.lst []]++[.dct []])=h2++[.lst []]++[.lst []]++[.lst []]++[.lst []]++[.dct []] by simp]
  apply Qd QbN
  ·apply Qt
   ·walk_at "s"
   apply Q2
   apply Qt
   ·walk_at "s"
   apply Q2
   apply Qt
   ·walk_at "s"
   apply Q2
   apply Qt
   ·walk_at "s"
   apply Q2
   apply Qt
   ·walk_at "s"
   apply Q2
   apply Qt
   ·walk_at "s"
   apply Q2
   apply Qt
   ·walk_at "s"
   apply Q2
   apply Qt
   ·walk_at "s"
   apply Q2
   apply Qt
   ·walk_at "s"
   exact Q2 W7
  ·exact rfl
 obtain⟨X,st⟩:=st
 have hs:h.set 6 (.dct (JG (.sym nm) (.loc d) ds))=h2:=r2
 rewrite [Ka,st,hs]
 rw[hs]at lo
 show some (gcR h.length (.none,h2++X))=_
 unfold gcR
 have tk:(h2++X).take h.length=h2:=by rw[←l2];exact List.take_left
 dsimp only
 rw[tk,if_pos lo]
 rfl
end
end
section
section
variable {C:CT} {ns:List Int} {ρ:Lc} {h h₁ h₂ h₃:H} {a b e:EX} {v:PV} {x:Int} {xs:List Int}
theorem En (e1:e C (x::xs) ρ h=some (.scr,h₁)):Kl e C (x::xs) ρ h=some (.int x,h₁):=Qv e1 rfl
theorem A8 (e1:a C ns ρ h=some (.int 10,h₁))(e2:b C ns ρ h₁=some (.int 18,h₂)):XU a b C ns ρ h=some (.int 1000000000000000000,h₂):=Y2 e1 e2 rfl
end
section
variable {ns xs:List Int} {n:Nat} {x:Int}
def Z1 (x:Int):Int:=if x< -x then -x else x
theorem Gs:0≤Z1 x:=by
 unfold Z1
 by_cases q:x< -x
 ·rw[if_pos q];exact Int.neg_nonneg_of_nonpos (Int.le_of_not_gt fun z=>Int.lt_irrefl x (Int.lt_trans q (Int.lt_trans (Int.neg_neg_of_pos z) z)))
 ·rw[if_neg q];exact Int.le_of_not_gt fun z=>q (Int.lt_trans z (Int.neg_pos_of_neg z))
def OQ (s:Int):Int:=if 1000000000000000000≤s then s else 0
theorem KS (s:Int)(k:0≤s):JOk (OQ s) (Int.fmod s 1000033+23):=by
 have p0:=Int.fmod_nonneg_of_pos s (b:=1000033) (by decide)
 have p1:=Int.fmod_lt_of_pos s (b:=1000033) (by decide)
 refine⟨?_,by exact o282 p0 p1,by exact o283 p0 p1⟩
 unfold OQ
 split<;>omega
theorem Ai (hn:1≤n):Qb (x::xs) n 68 [.scr] []=some (.loc 0,[Zf (OQ (Z1 x)) (Int.fmod (Z1 x) 1000033+23)]):=by
 have c1:(fun a b:Int=>decide (b<a)) ((x::xs).length:Int) 0=true:=by simp
 have st:Q0 (Qb (x::xs) (n - 1)) (x::xs) 68 [.scr] []=some (.loc ([]:H).length,([]:H)++[Zf (OQ (Z1 x)) (Int.fmod (Z1 x) 1000033+23)]):=by
  unfold Zf
  by_cases q:1000000000000000000≤Z1 x
  ·have c2:(fun a b:Int=>decide (b≤a)) (if x< -x then -x else x) 1000000000000000000=true:=decide_eq_true q
   rw[show OQ (Z1 x)=Z1 x from if_pos q]
   unfold Z1 at*
   apply Qd Er
   ·walk_at "body"
   ·exact rfl
  ·have c2:(fun a b:Int=>decide (b≤a)) (if x< -x then -x else x) 1000000000000000000=false:=decide_eq_false q
   rw[show OQ (Z1 x)=0 from if_neg q]
   unfold Z1 at*
   apply Qd Er
   ·walk_at "body"
   ·exact rfl
 exact L_n hn rfl st (.snoc .refl) (Nat.le_refl _) Qe rfl
theorem AA (hn:1≤n):Qb [] n 68 [.scr] []=some (.loc 0,[Zf (OQ (Z1 1)) (Int.fmod (Z1 1) 1000033+23)]):=by
 have c1:(fun a b:Int=>decide (b<a)) (([]:List Int).length:Int) 0=false:=rfl
 have st:Q0 (Qb [] (n - 1)) [] 68 [.scr] []=some (.loc ([]:H).length,([]:H)++[Zf (OQ (Z1 1)) (Int.fmod (Z1 1) 1000033+23)]):=by
  have c2:(fun a b:Int=>decide (b≤a)) (if(1:Int)< -1 then -1 else 1) 1000000000000000000=false:=rfl
  rw[show OQ (Z1 1)=0 from rfl]
  delta Z1 Zf at*
  apply Qd Er
  ·walk_at "body"
  ·exact rfl
 exact L_n hn rfl st (.snoc .refl) (Nat.le_refl _) Qe rfl
theorem A7 (hn:1≤n)(ns:List Int):∃a b,JOk a b∧Qb ns n 68 [.scr] []=some (.loc 0,[Zf a b]):=by
 cases ns with
 |nil=>exact⟨_,_,KS _ Gs,AA hn⟩
 |cons x xs=>exact⟨_,_,KS _ Gs,Ai hn⟩
end
end
section
section
variable {h h':H} {gs:List Gm} {W:Nat} {tb:Nat→Option (Nat×Nat)}
theorem KI.shk (K:KI h)(S:Shk h h'):KI h':=by
 obtain⟨k,a,b,t⟩:=K
 obtain⟨a',b',_,rfl⟩:=S
 refine⟨by rw[List.length_set];exact k,a',b',?_⟩
 rw[List.take_set,t]
 rfl
theorem TO.ne0 (T:TO h gs W tb){l:Nat}(o:own tb gs l):l≠0:=by have:=T.ge o;exact o284 this
theorem TO.no0 (T:TO h gs W tb):¬own tb gs 0:=fun o=>by have:=T.ge o;exact o285 this
theorem DC {ws:List Nat}{a b:Int}(hw:L12 ws):AO.lst (QU ws)≠Zf a b:=by
 rcases hw with ⟨w,rfl⟩|⟨w,w',rfl⟩<;>intro q<;>unfold Zf QU at q<;>cases q
theorem TO.shk (T:TO h gs W tb)(S:Shk h h'):TO h' gs W tb:=T.keep (T.k.shk S) fun l o=>S.get (T.ne0 o)
theorem MS.shk (J:Jar h)(M:MS h gs)(S:Shk h h'):MS h' gs:=by
 refine⟨(S.get (by decide)).trans M.l,fun g hg to=>?_,M.nu,M.len,M.wf⟩
 obtain⟨a,b,_,e⟩:=J
 rw[S.get (QY (M.w g hg to) e (DC (M.wf g hg).2.1))]
 exact M.w g hg to
theorem PuS.shk (J:Jar h)(P:PuS h gs W tb)(S:Shk h h'):PuS h' gs W tb:=⟨P.t.shk S,P.m.shk J S,P.w⟩
theorem PuS.ext (P:PuS h gs W tb)(E:Ext h h'):PuS h' gs W tb:=⟨P.t.ext E,P.m.ext E,P.w⟩
theorem Jar.at (J:Jar h)(e:h'[0]?=h[0]?):Jar h':=by
 obtain⟨a,b,ok,q⟩:=J
 exact⟨a,b,ok,e.trans q⟩
def FrH (P:Nat→Prop)(h h':H):Prop:=h.length≤h'.length∧∀l,l<h.length→l≠0→¬P l→h'[l]?=h[l]?
theorem FrH.ext {P:Nat→Prop}(E:Ext h h'):FrH P h h':=⟨E.le,fun l hl Z Z=>E.old hl⟩
theorem FrH.shk {P:Nat→Prop}(S:Shk h h'):FrH P h h':=⟨by rw[S.len];exact Nat.le_refl _,fun l Z h0 Z=>S.get h0⟩
theorem FrH.trans {P:Nat→Prop}{h'':H}(a:FrH P h h')(b:FrH P h' h''):FrH P h h'':=⟨Nat.le_trans a.1 b.1,fun l hl h0 hp=>(b.2 l (Nat.lt_of_lt_of_le hl a.1) h0 hp).trans (a.2 l hl h0 hp)⟩
end
section
variable {ns:List Int} {n:Nat} {h:H} {gs:List Gm} {W:Nat} {tb:Nat→Option (Nat×Nat)} {ρ:Lc}
theorem EA {f:Nat}{nms:List Nat}{es:List EX}(hn:1≤n)(J:Jar h)(g1:Ya ρ 1=.loc 0)(he:∀h,Jg es (Qb ns n) ns ρ h=some (QU nms,h))(k1:1≤nms.length)(k2:nms.length≤50):
  ∃nm h',nm∈nms∧Qi (QE es) (Qn 69 [(Qa 1),(Qj (nms.length:Int))]) (Qb ns n) ns ρ h=some (.sym nm,h')∧Jar h'∧∃h1,Shk (h++[.lst (QU nms)]) h1∧h'=h1:=by
 refine q0 ?_;intro Q;have len:(QU nms).length=nms.length:=List.length_map _
 have J1:Jar (h++[AO.lst (QU nms)]):=J.app
 obtain⟨r,h1,hr,e1,S1⟩:=BZ (ns:=ns) (n:=n) (k:=nms.length) hn J1 k1 (by omega)
 obtain⟨w,mw,iw⟩:=Mv hr k2
 refine⟨w,h1,mw,?_,S1.jar J1.pos,h1,S1,rfl⟩
 refine Bl (MC (he h) (Yu (by omega))) (Wu (Yd (YM g1 rfl) (Yd Zg JE)) e1) (MD (ps:=QU nms) ?_ iw)
 rw[S1.get (by have:=J.pos;exact o40 this)]
 exact Qe
theorem Dk {nms:List Nat}{es:List EX}(hn:2≤n)(J:Jar h)(g1:Ya ρ 1=.loc 0)(he:∀h,Jg es (Qb ns n) ns ρ h=some (QU nms,h))(k1:1≤nms.length)(k2:nms.length≤50):
  ∃ws h1,L12 ws∧(∀w∈ws,w∈nms)∧Qn 70 [(Qa 1),(QE es)] (Qb ns n) ns ρ h=some (.loc h1.length,h1++[.lst (QU ws)])∧Shk (h++[.lst (QU nms)]) h1:=by
 have len:(QU nms).length=nms.length:=List.length_map _
 obtain⟨ws,h1,hw,mw,e1,S1⟩:=SQ (ns:=ns) (n:=n) (l:=h.length) (nms:=nms) hn (J.app (X:=[AO.lst (QU nms)])) (Nat.ne_of_gt J.pos) Qe k1 k2
 refine⟨ws,h1,hw,mw,?_,S1⟩
 rw[←S1.len]at e1
 exact Wu (Yd (YM g1 rfl) (Yd (MC (he h) (Yu (by omega))) JE)) e1
def Rz:EX:=Qn 75 [(Qa 5),(Qa 6),(Qi (QE [(Qs 15),(Qs 15),(Qs 16)]) (Qn 69 [(Qa 1),(Qj 3)])),(Qn 70 [(Qa 1),(QE [(Qs 10),(Qs 12),(Qs 9),(Qs 11)])])]
theorem FN (hn:15≤n)(J:Jar h)(P:PuS h gs W tb)(gl:gs.length≤39)(h36:36≤h.length)(g1:Ya ρ 1=.loc 0)(g5:Ya ρ 5=.loc 32)(g6:Ya ρ 6=.loc 35):
  ∃nm ws wl m nl h' tb',Rz (Qb ns n) ns ρ h=some (.loc m,h')∧Nm nm∧L12 ws∧Wds ws∧Jar h'∧PuS h' (Yy nm ws m nl wl W gs) (W+1) tb'∧FrH (fun l=>l=35∨own tb gs l) h h'∧(∀l,own tb' (Yy nm ws m nl wl W gs) l→own tb gs l∨h.length≤l)∧h.length≤wl:=by
 refine q0 ?_;intro Q;obtain⟨nm,h1,mn,e1,J1,_,S1,rfl⟩:=EA (f:=0) (ns:=ns) (n:=n) (ρ:=ρ) (nms:=[15,15,16]) (es:=[(Qs 15),(Qs 15),(Qs 16)]) (by omega) J g1 (fun Z=>rfl) (by decide) (by decide)
 have P1:PuS h1 gs W tb:=(P.ext (.snoc .refl)).shk J.app S1
 obtain⟨ws,h2,hw,mw,e2,S2⟩:=Dk (ns:=ns) (n:=n) (ρ:=ρ) (nms:=[10,12,9,11]) (es:=[(Qs 10),(Qs 12),(Qs 9),(Qs 11)]) (by omega) J1 g1 (fun Z=>rfl) (by decide) (by decide)
 have J2:Jar h2:=S2.jar (by simp)
 have P2:PuS h2 gs W tb:=(P1.ext (.snoc .refl)).shk J1.app S2
 have P3:PuS (h2++[.lst (QU ws)]) gs W tb:=P2.ext (.snoc .refl)
 have l1:h1.length=h.length+1:=by rw[S1.len];simp
 have l2:h2.length=h.length+2:=by rw[S2.len];simp[l1]
 have hN:Nm nm:=by simp at mn;exact mn
 have dw:Wds ws:=fun w hw=>by
  have:=mw w hw
  simp at this
  unfold Wd
  exact o286 this
 obtain⟨m,nl,h',tb',e3,P4,f4,l4,o4⟩:=CA (ns:=ns) (n:=n) (wl:=h2.length) hn P3 hN hw dw gl Qe (fun o=>Nat.lt_irrefl _ (P2.t.lt o)) (o351 h36 l2) (by rw[List.length_append];exact o352 h36 l2)
 have F:FrH (fun l=>l=35∨own tb gs l) h h':=by
  refine((FrH.ext (.snoc .refl)).trans (.shk S1)).trans (((FrH.ext (.snoc .refl)).trans (.shk S2)).trans ((FrH.ext (.snoc .refl)).trans (h':=h2++[.lst (QU ws)]) ⟨l4,fun l hl h0 hp=>f4 l hl (fun e=>hp (Or.inl e)) fun o=>hp (Or.inr o)⟩))
 refine⟨nm,ws,h2.length,m,nl,h',tb',?_,hN,hw,dw,?_,P4,F,fun l o=>?_,by exact o287 l1 l2⟩
 ·exact Wu (Yd (YM g5 rfl) (Yd (YM g6 rfl) (Yd e1 (Yd e2 JE)))) e3
 ·refine(J2.app (X:=[AO.lst (QU ws)])).at (f4 0 (by simp) (by decide) P.t.no0)
 ·rcases o4 l o with q|q
  ·exact Or.inl q
  ·simp at q
   exact Or.inr (by exact o288 q l2 l1)
end
end
section
noncomputable abbrev ρA (x3 x4 x7:PV):Lc:=[.scr,.loc 0,.loc 1,x3,x4,.loc 32,.loc 35,x7,.unb,.unb,.unb,.unb,.unb,.unb,.unb,.unb,.unb,.unb,.unb,.unb,.unb,.unb,.unb,.unb,.unb,.unb]
section
variable {ns:List Int} {n:Nat} {h:H} {gs:List Gm} {W:Nat} {tb:Nat→Option (Nat×Nat)} {ρ:Lc} {x3 x4 x7:PV}
theorem Ip (hn:1≤n)(J:Jar h)(g1:Ya ρ 1=.loc 0)(c k:Nat)(k1:1≤k)(k2:k≤100)(c2:c≤100):
  ∃m h',QM (Jx (Qj (c:Int)) (Qn 69 [(Qa 1),(Qj (k:Int))])) (Qb ns n) ns ρ h=some (.rng 0 m,h')∧c≤m∧m<c+k∧Shk h h':=by
 obtain⟨r,h1,hr,e1,S1⟩:=BZ (ns:=ns) (n:=n) (k:=k) hn J k1 (by omega)
 refine⟨c+r,h1,?_,by exact o289,by exact o290 hr,S1⟩
 refine ZG (Y2 (f:=Hp) Zg (Wu (Yd (YM g1 rfl) (Yd Zg JE)) e1) rfl) ?_
 have:=J7 (h:=h1) (k:=c+r) (by exact o291 k1 k2 hr c2)
 rw[show((c+r:Nat):Int)=(c:Int)+(r:Int) by exact o292]at this
 exact this
theorem phA (hn:15≤n)(J:Jar h)(P:PuS h [] 1 tb)(h36:36≤h.length):
  ∃x h' gs tb',YK (.one 7) (QM (Jx (Qj 1) (Qn 69 [(Qa 1),(Qj 3)]))) [sExp Rz] (Qb ns n) ns (ρA x3 x4 .unb) h=some ((.nxt,ρA x3 x4 x),h')∧PuS h' gs (gs.length+1) tb'∧Jar h'∧gs.length≤3∧36≤h'.length:=by
 refine q0 ?_;intro Q;obtain⟨m,h1,e1,m1,m2,S1⟩:=Ip (ns:=ns) (n:=n) (ρ:=ρA x3 x4 .unb) (by omega) J rfl 1 3 (by omega) (by omega) (by omega)
 have H:=Q4 (t:=.one 7) (body:=QN [sExp Rz]) (src:=.rng 0 m) (C:=Qb ns n) (ns:=ns) (K:=m) (items:=fun j=>.int (j:Int))
  (fun k ρ h'=>(∃x,ρ=ρA x3 x4 x)∧36≤h'.length∧Jar h'∧∃gs tb',PuS h' gs (gs.length+1) tb'∧gs.length=k)
  (fun v h'=>False)
  (by intro k ρ h' _;simp only[Je])
  (by
   intro k ρ h' lt hI;obtain⟨⟨x,rfl⟩,l36,J',⟨gs,tb',P',gl⟩⟩:=hI
   refine⟨ρA x3 x4 (.int (k:Int)),rfl,?_⟩
   refine q0 ?_;intro Q;obtain⟨nm,ws,wl,mm,nl,h2,tb2,e2,hN,hw,dw,J2,P2,F2,o2,_⟩:=FN (ns:=ns) (n:=n) (ρ:=ρA x3 x4 (.int (k:Int))) hn J' P' (by exact o293 m1 m2 lt gl) l36 rfl rfl rfl
   refine⟨.nxt,ρA x3 x4 (.int (k:Int)),h2,Qt (K7 e2) (Q2 W7),Or.inr ⟨Or.inl rfl,⟨_,rfl⟩,by have:=F2.1;omega,J2,Yy nm ws mm nl wl (gs.length+1) gs,tb2,?_,by rw[Zv,gl]⟩⟩
   rw[Zv]
   exact P2)
  m 0 64 (ρA x3 x4 .unb) h1 (by exact o30) (by omega) ⟨⟨_,rfl⟩,by rw[S1.len];exact h36,S1.jar J.pos,[],tb,P.shk J S1,rfl⟩
 obtain⟨fl,ρ',h',e,r⟩:=H
 rcases r with ⟨v,rfl,F⟩|⟨rfl,⟨x,rfl⟩,l36,J',gs,tb',P',gl⟩
 ·exact F.elim
 exact⟨x,h',gs,tb',YG e1 e,P',J',by exact o294 m1 m2 gl,l36⟩
end
end
section
noncomputable abbrev ρB (x3 x4 x7:PV) (p:Pl) (x12 x13 x14 x15:PV):Lc:=[.scr,.loc 0,.loc 1,x3,x4,.loc 32,.loc 35,x7,.loc p.le,.loc p.lw,.loc p.la,.loc p.du,x12,x13,x14,x15,.unb,.unb,.unb,.unb,.unb,.unb,.unb,.unb,.unb,.unb]
def Oh:List SX:=[(sSet 15 (QK [(Qi (QE [(Qs 15),(Qs 16)]) (W2 (eEq (Qn 69 [(Qa 1),(Qj 4)]) (Qj 0)))),(Qn 70 [(Qa 1),(QE [(Qs 10),(Qs 11),(Qs 10),(Qs 12),(Qs 9)])])])),(sExp (Q8 (Qa 13) (Qa 15))),(sExp (Qx (Qa 8) 60 [(Qa 12),(Qi (Qa 15) (Qj 0)),(Qn 71 [(Qi (Qa 15) (Qj 0)),(Qi (Qa 15) (Qj 1))])]))]
structure IS (hM h:H) (us:List Gu) (p:Pl) (rows:List Rw) (rs:List (Nat×List Nat)):Prop where
 f:FrH (fun l=>l=p.ld) hM h
 j:Jar h
 m:h[hM.length]?=some (.lst (rows.map NM))
 r:∀r∈rows,Vh h r∧hM.length<r.wl
 d:(rows=[]∧rs=[]∧h[p.ld]?=some (.dct (QH 0 (us.map rlV))))∨∃rl,hM.length<rl∧h[p.ld]?=some (.dct (QH 0 (us.map rlV++[.loc rl])))∧h[rl]?=some (.lst (rs.map rsV))∧∀r∈rows,r.wl≠rl
 x:∀y,y∈rs↔∃r∈rows,y=(r.nm,r.vs)
 l:rs.length≤rows.length
section
variable {ns:List Int} {n:Nat} {hM h:H} {us:List Gu} {p:Pl} {rows:List Rw} {rs:List (Nat×List Nat)} {ds:List PV} {x3 x4 x7 x14 x15:PV} {ρ:Lc}
theorem Sm (hn:1≤n)(J:Jar h)(g1:Ya ρ 1=.loc 0):∃nm h1,Nm nm∧Qi (QE [(Qs 15),(Qs 16)]) (W2 (eEq (Qn 69 [(Qa 1),(Qj 4)]) (Qj 0))) (Qb ns n) ns ρ h=some (.sym nm,h1)∧Shk (h++[.lst (QU [15,16])]) h1:=by
 obtain⟨r,h1,hr,e1,S1⟩:=BZ (ns:=ns) (n:=n) (k:=4) hn (J.app (X:=[AO.lst (QU [15,16])])) (by decide) (by decide)
 have g:h1[h.length]?=some (.lst (QU [15,16])):=by
  rw[S1.get (by have:=J.pos;exact o40 this)]
  exact Qe
 have ei:W2 (eEq (Qn 69 [(Qa 1),(Qj 4)]) (Qj 0)) (Qb ns n) ns ρ (h++[.lst (QU [15,16])])=some (.int (if Nat.beq r 0 then 1 else 0),h1):=
  Z6 (f:=IB) (XG (Wu (Yd (YM g1 rfl) (Yd Zg JE)) e1) Zg (Ni (i:=r) (j:=0))) rfl
 cases q:Nat.beq r 0 with
 |true=>
  rw[q]at ei
  exact⟨16,h1,Or.inr rfl,Bl (MC (ps:=QU [15,16]) rfl rfl) ei (MD g rfl),S1⟩
 |false=>
  rw[q]at ei
  exact⟨15,h1,Or.inl rfl,Bl (MC (ps:=QU [15,16]) rfl rfl) ei (MD g rfl),S1⟩
theorem Sy {nm:Nat}{ws:List Nat}:NC rs nm ws=true↔(nm,ws)∈rs:=by
 unfold NC
 rw[List.any_eq_true]
 constructor
 ·rintro ⟨⟨a,b⟩,m,q⟩
  simp only[Bool.and_eq_true]at q
  rw[←Nat.eq_of_beq_eq_true q.1,←Q7.mp q.2]
  exact m
 ·intro m
  exact⟨_,m,by rw[Nat.beq_refl,Q7.mpr rfl];rfl⟩
theorem VT (hn:2≤n)(JM:Jar hM)(U:US hM us ds p)(I:IS hM h us p rows rs)(rl1:rows.length≤1):
  ∃x h' r rs',QN Oh (Qb ns n) ns (ρB x3 x4 x7 p (.int (us.length:Int)) (.loc hM.length) x14 x15) h=some ((.nxt,ρB x3 x4 x7 p (.int (us.length:Int)) (.loc hM.length) x14 x),h')∧IS hM h' us p (rows++[r]) rs':=by
 refine q0 ?_;intro Q
 obtain⟨nm,hB,hN,eN,SB⟩:=Sm (ns:=ns) (n:=n) (ρ:=ρB x3 x4 x7 p (.int (us.length:Int)) (.loc hM.length) x14 x15) (by omega) I.j rfl
 have JB:Jar hB:=SB.jar (by simp)
 obtain⟨ws,hC,hw,mw,eW,SC⟩:=Dk (ns:=ns) (n:=n) (ρ:=ρB x3 x4 x7 p (.int (us.length:Int)) (.loc hM.length) x14 x15) (nms:=[10,11,10,12,9]) (es:=[(Qs 10),(Qs 11),(Qs 10),(Qs 12),(Qs 9)]) hn JB rfl (fun Z=>rfl) (by decide) (by decide)
 have JC:Jar hC:=SC.jar (by simp)
 have lB:hB.length=h.length+1:=by rw[SB.len];simp
 have lC:hC.length=h.length+2:=by rw[SC.len];simp[lB]
 have dw:Wds ws:=fun w hw=>by
  have:=mw w hw
  simp at this
  unfold Wd
  exact o295 this
 have M0:hM.length≠0:=by have:=JM.pos;exact o40 this
 have lM:hM.length<h.length:=Qc I.m
 have oldC:∀l,l<h.length→l≠0→(hC++[AO.lst (QU ws)])[l]?=h[l]?:=fun l hl l0=>by
  simp only[List.getElem?_append_left (by exact o296 hl lC),SC.get l0,List.getElem?_append_left (by exact o297 hl lB lC),SB.get l0,List.getElem?_append_left hl]
 have mC:(hC++[AO.lst (QU ws)])[hM.length]?=some (.lst (rows.map NM)):=(oldC _ lM M0).trans I.m
 have shr:QG (rows.map NM)=true:=Yu (by rw[List.length_map];omega)
 obtain⟨hD,rD,aD,bD,lD,_⟩:=QC mC (.lst (rows.map NM++[.tup [.sym nm,.loc hC.length]]))
 have lDn:hD.length=hC.length+1:=by rw[lD];simp
 have wD:hD[hC.length]?=some (.lst (QU ws)):=(bD _ (by exact o99 lM lC lDn lD)).trans Qe
 have oldD:∀l,l<h.length→l≠0→l≠hM.length→hD[l]?=h[l]?:=fun l hl l0 lm=>(bD l lm).trans (oldC l hl l0)
 have ldl:p.ld<hM.length:=U.lt (Or.inr (Or.inl rfl))
 have lel:p.le<hM.length:=U.lt (Or.inl rfl)
 have le0:p.le≠0:=by
  obtain⟨a,b,_,e⟩:=JM
  exact QY U.e e (by unfold Zf;simp)
 have ld0:p.ld≠0:=by
  obtain⟨a,b,_,e⟩:=JM
  exact QY U.d e (by unfold Zf;simp)
 have eD:hD[p.le]?=some (.ins 3 [(21,.loc 32),(0,.loc p.ld)]):=(oldD _ (by exact o64 lel lM lC lDn lD) le0 (by exact o39 lel)).trans ((I.f.2 _ lel le0 (QY U.e U.d (by simp))).trans U.e)
 have cl:Qb ns n 71 [.sym nm,.loc hC.length] hD=some (Ql nm ws,hD):=KL hn wD hw
 have lus:=U.len
 have s0:hD[0]?=hC[0]?:=(bD 0 (by exact o298 lel)).trans (List.getElem?_append_left (by exact o299 lD lDn lC))
 have run:∀hE,Qb ns n 32 [.loc p.le,.int (us.length:Int),.sym nm,Ql nm ws] hD=some (.none,hE)→QN Oh (Qb ns n) ns (ρB x3 x4 x7 p (.int (us.length:Int)) (.loc hM.length) x14 x15) h=some ((.nxt,ρB x3 x4 x7 p (.int (us.length:Int)) (.loc hM.length) x14 (.tup [.sym nm,.loc hC.length])),hE):=fun hE eE=>by
  unfold Oh
  apply Qt
  ·(with_reducible apply ZL)
   ·exact FV (ps:=[.sym nm,.loc hC.length]) (Yd eN (Yd eW JE)) rfl
   ·walk_at "set"
  ·apply Q2
   walk_at "ss"
 clear rD shr mC;have rows':∀hE:H,(∀l,l<hD.length→l≠p.ld→(∀r∈rows,r.wl=l→hE[l]?=hD[l]?))→True:=fun Z Z=>trivial
 clear rows';have fin:∀(hE:H) (rs':List (Nat×List Nat)),hD.length≤hE.length→(∀l,l<hD.length→l≠p.ld→(l<hM.length∨l=hM.length∨l=hC.length∨∃r∈rows,l=r.wl)→hE[l]?=hD[l]?)→
   (∃rl,hM.length<rl∧hE[p.ld]?=some (.dct (QH 0 (us.map rlV++[.loc rl])))∧hE[rl]?=some (.lst (rs'.map rsV))∧(∀r∈rows,r.wl≠rl)∧hC.length≠rl)→(∀y,y∈rs'↔y∈rs∨y=(nm,ws))→rs'.length≤rs.length+1→IS hM hE us p (rows++[⟨nm,ws,hC.length⟩]) rs':=by
  intro hE rs' le f d x l
  refine⟨⟨by exact o300 lC lM lD lDn le d,fun l hl l0 hp=>?_⟩,?_,?_,?_,?_,?_,?_⟩
  ·simp only[f l (by exact o301 lC lM lD lDn d hl) hp (Or.inl hl),oldD l (by exact o302 lC lM lD lDn d hl) l0 (by exact o303 d hl)]
   exact I.f.2 l hl l0 hp
  ·exact(JC.app (X:=[AO.lst (QU ws)])).at (((f 0 (by exact o304 d lD lDn lC) (Ne.symm ld0) (Or.inl (by omega))).trans s0).trans (List.getElem?_append_left (by exact o305 d lD lDn lC)).symm)
  ·rw[f _ (by exact o100 d lM lC lDn lD) (by exact o101 d ldl) (Or.inr (Or.inl rfl)),List.map_append]
   exact aD
  ·intro r hr
   rcases List.mem_append.mp hr with hr|hr
   ·obtain⟨⟨q1,q2,q3,q4⟩,q5⟩:=I.r r hr
    refine⟨⟨q1,q2,q3,?_⟩,q5⟩
    have:=Qc q4
    simp only[f _ (by exact o100 d this lC lDn lD) (by exact o306 d ldl q5) (Or.inr (Or.inr (Or.inr ⟨r,hr,rfl⟩))),oldD _ this (by exact o307 d q5) (by exact o101 d q5)]
    exact q4
   ·cases List.mem_singleton.mp hr
    exact⟨⟨hN,hw,dw,(f _ (by exact o308 d lD lDn) (by show hC.length≠p.ld;exact o309 lC lM lD lDn ldl d) (Or.inr (Or.inr (Or.inl rfl)))).trans wD⟩,by show hM.length<hC.length;exact o310 d lM lC lDn lD⟩
  ·obtain⟨rl,d1,d2,d3,d4,d5⟩:=d
   refine Or.inr ⟨rl,d1,d2,d3,fun r hr=>?_⟩
   rcases List.mem_append.mp hr with hr|hr
   ·exact d4 r hr
   ·cases List.mem_singleton.mp hr
    exact d5
  ·intro y
   rw[x y,I.x y]
   constructor
   ·rintro (⟨r,hr,e⟩|e)
    ·exact⟨r,List.mem_append_left _ hr,e⟩
    ·exact⟨_,List.mem_append_right _ (List.mem_singleton.mpr rfl),e⟩
   ·rintro ⟨r,hr,e⟩
    rcases List.mem_append.mp hr with hr|hr
    ·exact Or.inl ⟨r,hr,e⟩
    ·cases List.mem_singleton.mp hr
     exact Or.inr e
  ·have:=I.l
   simp
   exact o311 d this l
 clear aD;rcases I.d with ⟨z1,z2,z3⟩|⟨rl,q1,q2,q3,q4⟩
 ·subst z1
  subst z2
  have dD:hD[p.ld]?=some (.dct (QH 0 (us.map rlV))):=(oldD _ (by exact o64 ldl lM lC lDn lD) ld0 (by exact o39 ldl)).trans z3
  obtain⟨hE,eE,a,b,c,d⟩:=Fp (ns:=ns) (n:=n) (nm:=nm) (ws:=ws) (by omega) eD dD (by rw[List.length_map];omega)
  rw[List.length_map]at eE
  refine⟨_,hE,_,_,run hE eE,fin hE [(nm,ws)] (by exact o312 lD d) (fun l hl lp Z=>c l hl lp) ⟨hD.length,by exact o313 lM lC lDn lD d,a,b,fun r hr=>by simp at hr,by exact o314 lD lDn⟩ (fun y=>by simp) (by simp)⟩
 ·have rlh:=Qc q3
  have dD:hD[p.ld]?=some (.dct (QH 0 (us.map rlV++[.loc rl]))):=(oldD _ (by exact o64 ldl lM lC lDn lD) ld0 (by exact o39 ldl)).trans q2
  have rD':hD[rl]?=some (.lst (rs.map rsV)):=(oldD _ rlh (by exact o315 q1) (by exact o38 q1)).trans q3
  have Il:=I.l
  obtain⟨hE,eE,a,b,c⟩:=Kj (ns:=ns) (n:=n) (nm:=nm) (ws:=ws) (k:=us.length) (by omega) eD dD (by simp;omega) (by rw[List.getElem?_append_right (by rw[List.length_map];exact Nat.le_refl _),List.length_map,Nat.sub_self];rfl) rD' (by exact o316 rl1 Il)
  refine⟨_,hE,_,_,run hE eE,fin hE (if NC rs nm ws then rs else rs++[(nm,ws)]) c (fun l hl lp q=>b l hl ?_) ⟨rl,q1,(b _ (by exact o317 ldl lM lC lDn lD) (by exact o102 ldl q1)).trans dD,a,q4,by exact o99 rlh lC lDn lD⟩ (fun y=>?_) (by split<;>simp)⟩
  ·rcases q with q|q|q|⟨r,hr,q⟩
   ·exact o102 q q1
   ·exact o318 q1 q
   ·exact o319 rlh lC q lDn lD
   ·rw[q]
    exact q4 r hr
  ·split
   ·rename_i c
    constructor
    ·exact Or.inl
    ·rintro (e|e)
     ·exact e
     ·rw[e]
      exact Sy.mp c
   ·rw[List.mem_append,List.mem_singleton]
end
end
section
def LB (u:Gu)(l:Nat):Prop:=l=u.lu∨l=u.rl∨∃r∈u.rows,l=r.wl
structure UB (hA h:H) (us:List Gu) (p:Pl) (W:Nat):Prop where
 u:US h us (us.map bnd) p
 j:Jar h
 f:FrH (fun Z=>False) hA h
 n:p.ld≠p.wd∧p.la≠p.du
 g:∀u∈us,∀l,LB u l→hA.length≤l∧l≠p.la∧l≠p.du
 b:hA.length≤p.le∧hA.length≤p.ld∧hA.length≤p.lw∧hA.length≤p.wd∧hA.length≤p.la∧hA.length≤p.du
 w:∀u∈us,u.fr=W∧u.to=none
def H6:List SX:=[(sSet 13 (QE [])),(YK (.one 14) (QM (Jx (Qj 1) (Qn 69 [(Qa 1),(Qj 2)]))) Oh),(sExp (Qx (Qa 9) 61 [(Qa 12),(Qk (Qa 5) 51)])),(sExp (Q8 (Qa 10) (Qa 13))),(sExp (Q8 (Qa 11) (QK [(Qk (Qa 5) 51),QT])))]
section
variable {ns:List Int} {n:Nat} {hA hM h:H} {us:List Gu} {p:Pl} {rows:List Rw} {rs:List (Nat×List Nat)} {ds:List PV} {x3 x4 x7 x13 x14 x15:PV} {ρ:Lc} {W:Nat} {y:Int}
theorem T5 (hn:2≤n)(U:UB hA h us p W):
  ∃x x' h' rows rs,YK (.one 14) (QM (Jx (Qj 1) (Qn 69 [(Qa 1),(Qj 2)]))) Oh (Qb ns n) ns (ρB x3 x4 x7 p (.int (us.length:Int)) (.loc h.length) x14 x15) (h++[.lst []])=some ((.nxt,ρB x3 x4 x7 p (.int (us.length:Int)) (.loc h.length) x x'),h')∧IS h h' us p rows rs∧rows≠[]∧rows.length≤2:=by
 refine q0 ?_;intro Q;have J1:Jar (h++[AO.lst []]):=U.j.app
 obtain⟨m,h2,e2,m1,m2,S2⟩:=Ip (ns:=ns) (n:=n) (ρ:=ρB x3 x4 x7 p (.int (us.length:Int)) (.loc h.length) x14 x15) (by omega) J1 rfl 1 2 (by omega) (by omega) (by omega)
 have h0:h.length≠0:=by have:=U.j.pos;exact o40 this
 have d0:p.ld≠0:=by
  obtain⟨a,b,_,e⟩:=U.j
  exact QY U.u.d e (by unfold Zf;simp)
 have I0:IS h h2 us p [] []:=⟨(FrH.ext (.snoc .refl)).trans (.shk S2),S2.jar J1.pos,by rw[S2.get h0];exact Qe,fun r hr=>by simp at hr,Or.inl ⟨rfl,rfl,by rw[S2.get d0];exact Qf U.u.d⟩,fun y=>by simp,Nat.le_refl _⟩
 have H:=Q4 (t:=.one 14) (body:=QN Oh) (src:=.rng 0 m) (C:=Qb ns n) (ns:=ns) (K:=m) (items:=fun j=>.int (j:Int))
  (fun k ρ h'=>(∃x x',ρ=ρB x3 x4 x7 p (.int (us.length:Int)) (.loc h.length) x x')∧∃rows rs,rows.length=k∧IS h h' us p rows rs)
  (fun v h'=>False)
  (by intro k ρ h' _;simp only[Je])
  (by
   rintro k ρ h' lt ⟨⟨x,x',rfl⟩,rows,rs,rk,I⟩
   refine⟨ρB x3 x4 x7 p (.int (us.length:Int)) (.loc h.length) (.int (k:Int)) x',rfl,?_⟩
   refine q0 ?_;intro Q;obtain⟨z,h3,r,rs',e3,I3⟩:=VT (ns:=ns) (n:=n) (x3:=x3) (x4:=x4) (x7:=x7) (x14:=.int (k:Int)) (x15:=x') hn U.j U.u I (rk▸Nat.le_of_lt_succ (Nat.lt_of_lt_of_le lt (Nat.le_of_lt_succ m2)))
   exact⟨.nxt,_,h3,e3,Or.inr ⟨Or.inl rfl,⟨_,_,rfl⟩,rows++[r],rs',by simp[rk],I3⟩⟩)
  m 0 64 (ρB x3 x4 x7 p (.int (us.length:Int)) (.loc h.length) x14 x15) h2 (by exact o30) (by omega) ⟨⟨_,_,rfl⟩,[],[],rfl,I0⟩
 obtain⟨fl,ρ',h',e,r⟩:=H
 rcases r with ⟨v,rfl,F⟩|⟨rfl,⟨x,x',rfl⟩,rows,rs,rk,I⟩
 ·exact F.elim
 exact⟨x,x',h',rows,rs,YG e2 e,I,fun q=>by rw[q]at rk;simp at rk;omega,by exact o320 m1 m2 rk⟩
theorem Eh (hn:2≤n)(U:UB hA h us p W)(ht:hA[32]?=some (.ins 9 [(4,.loc 1),(21,.loc 33),(50,.loc 34),(51,.int (W:Int))]))(ul:us.length≤9):
  ∃y13 y14 y15 h' u,QN H6 (Qb ns n) ns (ρB x3 x4 x7 p (.int (us.length:Int)) x13 x14 x15) h=some ((.nxt,ρB x3 x4 x7 p (.int (us.length:Int)) y13 y14 y15),h')∧UB hA h' (us++[u]) p W:=by
 refine q0 ?_;intro Q
 obtain⟨x,x',h3,rows,rs,e3,I,rne,rle⟩:=T5 (ns:=ns) (n:=n) (x3:=x3) (x4:=x4) (x7:=x7) (x14:=x14) (x15:=x15) hn U
 obtain⟨rl,q1,q2,q3,q4⟩:∃rl,h.length<rl∧h3[p.ld]?=some (.dct (QH 0 (us.map rlV++[.loc rl])))∧h3[rl]?=some (.lst (rs.map rsV))∧∀r∈rows,r.wl≠rl:=by
  refine q0 ?_;intro Q;rcases I.d with ⟨z,_⟩|d
  ·exact absurd z rne
  ·exact d
 clear q4;obtain⟨b1,b2,b3,b4,b5,b6⟩:=U.b
 have A33:33≤hA.length:=Qc ht
 have lt:∀l,Wh us p l→l<h.length:=fun l o=>U.u.lt o
 have lle:=lt p.le (Or.inl rfl)
 have lld:=lt p.ld (Or.inr (Or.inl rfl))
 have llw:=lt p.lw (Or.inr (Or.inr (Or.inl rfl)))
 have lwd:=lt p.wd (Or.inr (Or.inr (Or.inr (Or.inl rfl))))
 have lla:=lt p.la (Or.inr (Or.inr (Or.inr (Or.inr (Or.inl rfl)))))
 have ldu:=lt p.du (Or.inr (Or.inr (Or.inr (Or.inr (Or.inr (Or.inl rfl))))))
 have old:∀l,l<h.length→l≠0→l≠p.ld→h3[l]?=h[l]?:=fun l hl h0 hd=>I.f.2 l hl h0 hd
 have lwne:p.lw≠p.ld:=QY U.u.w U.u.d (by simp)
 have lane:p.la≠p.ld:=QY U.u.l U.u.d (by simp)
 have dune:p.du≠p.ld:=QY U.u.u U.u.d (by simp)
 have lene:p.le≠p.ld:=QY U.u.e U.u.d (by simp)
 have w3:h3[p.lw]?=some (.ins 4 [(27,.loc p.le),(0,.loc p.wd)]):=(old _ llw (by exact o31 A33 b3) lwne).trans U.u.w
 have x3':h3[p.wd]?=some (.dct (QH 0 (us.map bnd))):=(old _ lwd (by exact o31 A33 b4) (Ne.symm U.n.1)).trans U.u.x
 have t3:h3[32]?=some (.ins 9 [(4,.loc 1),(21,.loc 33),(50,.loc 34),(51,.int (W:Int))]):=by
  simp only[old 32 (by exact o321 A33 b1 lle) (by decide) (by exact o65 A33 b2),U.f.2 32 (by omega) (by decide) id]
  exact ht
 obtain⟨h4,r4,a4,f4,l4,_⟩:=QC x3' (.dct (QH 0 (us.map bnd++[.tup [.int (W:Int),.none]])))
 have c4:=Fw (ns:=ns) (n:=n) (by omega) w3 x3' (by rw[List.length_map];omega) r4
 rewrite [List.length_map]at c4
 have la3:h3[p.la]?=some (.lst (us.map luV)):=(old _ lla (by exact o31 A33 b5) lane).trans U.u.l
 have la4:h4[p.la]?=some (.lst (us.map luV)):=(f4 _ (QY la3 x3' (by simp))).trans la3
 obtain⟨h5,r5,a5,f5,l5,_⟩:=QC la4 (.lst (us.map luV++[.loc h.length]))
 have du3:h3[p.du]?=some (.lst (us.map bnd)):=(old _ ldu (by exact o31 A33 b6) dune).trans U.u.u
 have du5:h5[p.du]?=some (.lst (us.map bnd)):=(f5 _ (Ne.symm U.n.2)).trans ((f4 _ (QY du3 x3' (by simp))).trans du3)
 have t5:h5[32]?=some (.ins 9 [(4,.loc 1),(21,.loc 33),(50,.loc 34),(51,.int (W:Int))]):=(f5 _ (by exact o65 A33 b5)).trans ((f4 _ (by exact o65 A33 b4)).trans t3)
 obtain⟨h6,r6,a6,f6,l6,_⟩:=QC du5 (.lst (us.map bnd++[.tup [.int (W:Int),.none]]))
 have sh1:QG (us.map luV)=true:=Yu (by rw[List.length_map];omega)
 have sh2:QG (us.map bnd)=true:=Yu (by rw[List.length_map];omega)
 have same:∀l,l≠p.wd→l≠p.la→l≠p.du→h6[l]?=h3[l]?:=fun l a b c=>(f6 l c).trans ((f5 l b).trans (f4 l a))
 have le3:h.length≤h3.length:=I.f.1
 have l63:h6.length=h3.length:=l6.trans (l5.trans l4)
 have mw:=U.n.1
 have Mm:=I.m
 refine⟨.loc h.length,x,x',h6,⟨rows,rs,h.length,rl,W,none⟩,?_,⟨⟨?_,?_,?_,?_,?_,?_,?_,by simp;omega⟩,?_,⟨?_,?_⟩,U.n,?_,U.b,?_⟩⟩
 ·unfold H6
  apply Qt
  ·walk_at "s"
  apply Q2
  apply Qt e3
  apply Q2
  walk_at "ss"
 ·simp only[same _ (QY U.u.e U.u.x (by simp)) (QY U.u.e U.u.l (by simp)) (QY U.u.e U.u.u (by simp)),old _ lle (by exact o31 A33 b1) lene]
  exact U.u.e
 ·rw[same _ mw (Ne.symm lane) (Ne.symm dune),List.map_append]
  exact q2
 ·simp only[same _ (QY U.u.w U.u.x (by simp)) (QY U.u.w U.u.l (by simp)) (QY U.u.w U.u.u (by simp))]
  exact w3
 ·rw[(f6 _ (QY U.u.x U.u.u (by simp))).trans (f5 _ (QY U.u.x U.u.l (by simp))),List.map_append]
  exact a4
 ·rw[f6 _ U.n.2,List.map_append]
  exact a5
 ·rw[List.map_append]
  exact a6
 ·intro u hu
  rcases List.mem_append.mp hu with hu|hu
  ·refine(U.u.g u hu).keep fun l hl=>?_
   obtain⟨g1,g2,g3⟩:=U.g u hu l hl
   have ll:=lt l (Or.inr (Or.inr (Or.inr (Or.inr (Or.inr (Or.inr ⟨u,hu,hl⟩))))))
   have hll:∃ps,h[l]?=some (.lst ps):=by
    clear ll g3 g2 g1;rcases hl with rfl|rfl|⟨r,hr,rfl⟩
    ·exact⟨_,(U.u.g u hu).lu⟩
    ·exact⟨_,(U.u.g u hu).rl⟩
    ·exact⟨_,((U.u.g u hu).rows r hr).2.2.2⟩
   obtain⟨ps,e⟩:=hll
   simp only[same l (QY e U.u.x (by simp)) g2 g3,old l ll (by exact o31 A33 g1) (QY e U.u.d (by simp))]
  ·cases List.mem_singleton.mp hu
   refine⟨?_,?_,⟨rle,Nat.le_trans I.l rle⟩,fun r hr=>?_,I.x⟩
   ·show h6[h.length]?=_
    rw[same _ (by exact o38 lwd) (by exact o38 lla) (by exact o38 ldu)]
    exact Mm
   ·show h6[rl]?=_
    rw[same _ (by exact o41 lwd q1) (by exact o41 lla q1) (by exact o41 ldu q1)]
    exact q3
   ·obtain⟨⟨z1,z2,z3,z4⟩,z5⟩:=I.r r hr
    refine⟨z1,z2,z3,?_⟩
    rw[same _ (by exact o41 lwd z5) (by exact o41 lla z5) (by exact o41 ldu z5)]
    exact z4
 ·exact I.j.at (same 0 (by exact o66 A33 b4) (by exact o66 A33 b5) (by exact o66 A33 b6))
 ·have:=U.f.1
  exact o322 b6 ldu l4 l5 l6 le3
 ·intro l hl h0 _
  simp only[same l (by exact o36 hl b4) (by exact o36 hl b5) (by exact o36 hl b6),old l (by have:=U.f.1;omega) h0 (by exact o36 hl b2)]
  exact U.f.2 l hl h0 id
 ·intro u hu l hl
  rcases List.mem_append.mp hu with hu|hu
  ·exact U.g u hu l hl
  ·cases List.mem_singleton.mp hu
   clear hu;have:h.length≤l:=by
    rcases hl with rfl|rfl|⟨r,hr,rfl⟩
    ·exact Nat.le_refl _
    ·exact o67 q1
    ·have:=(I.r r hr).2
     exact o67 this
   have:=U.f.1
   exact o323 ldu (by assumption) lla b6
 ·intro u hu
  rcases List.mem_append.mp hu with hu|hu
  ·exact U.w u hu
  ·cases List.mem_singleton.mp hu
   exact⟨rfl,rfl⟩
end
end
section
section
variable {ns:List Int} {n:Nat} {hA h:H} {us:List Gu} {p:Pl} {x3 x4 x7 x12 x13 x14 x15:PV} {W:Nat}
theorem V4 (hn:2≤n)(J:Jar hA):∃p h0,UB hA h0 [] p W∧∀ss fl ρ' h',QN ss (Qb ns n) ns (ρB x3 x4 x7 p .unb .unb .unb .unb) h0=some ((fl,ρ'),h')→QN (sSet 8 (Jl 3 [(Qa 5)])::sSetT [9,10,11] (QK [(Jl 4 [(Qa 8)]),(QE []),(QE [])])::ss) (Qb ns n) ns (ρA x3 x4 x7) hA=some ((fl,ρ'),h'):=by
 generalize e1:hA++[AO.ins 3 [(21,.loc 32),(0,.loc (hA++[AO.ins 3 [(21,.loc 32)]]).length)]]++[.dct []]=h1
 generalize e2:h1++[AO.ins 4 [(27,.loc hA.length),(0,.loc (h1++[AO.ins 4 [(27,.loc hA.length)]]).length)]]++[.dct []]=h2
 have s1:sSet 8 (Jl 3 [(Qa 5)]) (Qb ns n) ns (ρA x3 x4 x7) hA=some ((.nxt,[.scr,.loc 0,.loc 1,x3,x4,.loc 32,.loc 35,x7,.loc hA.length,.unb,.unb,.unb,.unb,.unb,.unb,.unb,.unb,.unb,.unb,.unb,.unb,.unb,.unb,.unb,.unb,.unb]),h1):=by
  rw[←e1]
  walk_at "s"
 have s2:sSetT [9,10,11] (QK [(Jl 4 [(Qa 8)]),(QE []),(QE [])]) (Qb ns n) ns [.scr,.loc 0,.loc 1,x3,x4,.loc 32,.loc 35,x7,.loc hA.length,.unb,.unb,.unb,.unb,.unb,.unb,.unb,.unb,.unb,.unb,.unb,.unb,.unb,.unb,.unb,.unb,.unb] h1=some ((.nxt,[.scr,.loc 0,.loc 1,x3,x4,.loc 32,.loc 35,x7,.loc hA.length,.loc h1.length,.loc h2.length,.loc (h2++[AO.lst []]).length,.unb,.unb,.unb,.unb,.unb,.unb,.unb,.unb,.unb,.unb,.unb,.unb,.unb,.unb]),h2++[.lst []]++[.lst []]):=by
  rewrite [←e2]
  walk_at "s"
 have l1:h1.length=hA.length+2:=by rw[←e1];simp
 have l2:h2.length=hA.length+4:=by simp only[←e2];simp[l1]
 have E1:Ext hA h1:=by rw[←e1];exact .snoc (.snoc .refl)
 have E2:Ext h1 h2:=by rw[←e2];exact .snoc (.snoc .refl)
 have E3:Ext h2 (h2++[AO.lst []]++[.lst []]):=.snoc (.snoc .refl)
 have a1:h1[hA.length]?=some (.ins 3 [(21,.loc 32),(0,.loc (hA.length+1))]):=by
  rw[←e1]
  have q:(hA++[AO.ins 3 [(21,.loc 32)]]).length=hA.length+1:=by simp
  rw[q]
  exact Qf Qe
 have a2:h1[hA.length+1]?=some (.dct []):=by
  rw[←e1]
  have q:(hA++[AO.ins 3 [(21,.loc 32),(0,.loc (hA++[AO.ins 3 [(21,.loc 32)]]).length)]]).length=hA.length+1:=by simp
  rw[←q]
  exact Qe
 have a3:h2[h1.length]?=some (.ins 4 [(27,.loc hA.length),(0,.loc (h1.length+1))]):=by
  rw[←e2]
  have q:(h1++[AO.ins 4 [(27,.loc hA.length)]]).length=h1.length+1:=by simp
  rw[q]
  exact Qf Qe
 have a4:h2[h1.length+1]?=some (.dct []):=by
  rw[←e2]
  have q:(h1++[AO.ins 4 [(27,.loc hA.length),(0,.loc (h1++[AO.ins 4 [(27,.loc hA.length)]]).length)]]).length=h1.length+1:=by simp
  rw[←q]
  exact Qe
 refine⟨⟨hA.length,hA.length+1,h1.length,h1.length+1,h2.length,(h2++[AO.lst []]).length⟩,_,⟨⟨E3.get (E2.get a1),E3.get (E2.get a2),E3.get a3,E3.get a4,Qf Qe,Qe,fun u hu=>by simp at hu,by simp⟩,?_,FrH.ext (E1.trans (E2.trans E3)),⟨?_,?_⟩,fun u hu=>by simp at hu,⟨?_,?_,?_,?_,?_,?_⟩,fun u hu=>by simp at hu⟩,fun ss fl ρ' h' e=>Qt s1 (Q2 (Qt s2 (Q2 e)))⟩
 ·obtain⟨a,b,ok,e⟩:=J
  exact⟨a,b,ok,E3.get (E2.get (E1.get e))⟩
 ·show hA.length+1≠h1.length+1
  exact o324 l1
 ·show h2.length≠(h2++[AO.lst []]).length
  simp
 all_goals (dsimp only;first|exact Nat.le_refl _|exact Nat.le_succ _|exact l1▸Nat.le_add_right _ _|exact Nat.le_succ_of_le (l1▸Nat.le_add_right _ _)|exact l2▸Nat.le_add_right _ _|(simp;exact o329 l2))
theorem phB (hn:2≤n)(U:UB hA h [] p W)(ht:hA[32]?=some (.ins 9 [(4,.loc 1),(21,.loc 33),(50,.loc 34),(51,.int (W:Int))])):
  ∃y12 y13 y14 y15 h' us,YK (.one 12) (QM (Jx (Qj 2) (Qn 69 [(Qa 1),(Qj 3)]))) H6 (Qb ns n) ns (ρB x3 x4 x7 p x12 x13 x14 x15) h=some ((.nxt,ρB x3 x4 x7 p y12 y13 y14 y15),h')∧UB hA h' us p W:=by
 refine q0 ?_;intro Q;obtain⟨m,h1,e1,m1,m2,S1⟩:=Ip (ns:=ns) (n:=n) (ρ:=ρB x3 x4 x7 p x12 x13 x14 x15) (by omega) U.j rfl 2 3 (by omega) (by omega) (by omega)
 have A33:33≤hA.length:=Qc ht
 obtain⟨b1,b2,b3,b4,b5,b6⟩:=U.b
 have U1:UB hA h1 [] p W:=⟨U.u.keep fun l o=>S1.get (by
  rcases o with rfl|rfl|rfl|rfl|rfl|rfl|⟨u,hu,_⟩
  all_goals first|exact Nat.ne_of_gt (Nat.lt_of_lt_of_le (by decide) (Nat.le_trans A33 (by assumption)))|(simp at hu)),S1.jar U.j.pos,U.f.trans (.shk S1),U.n,U.g,U.b,U.w⟩
 have H:=Q4 (t:=.one 12) (body:=QN H6) (src:=.rng 0 m) (C:=Qb ns n) (ns:=ns) (K:=m) (items:=fun j=>.int (j:Int))
  (fun k ρ h'=>(∃y12 y13 y14 y15,ρ=ρB x3 x4 x7 p y12 y13 y14 y15)∧∃us,us.length=k∧UB hA h' us p W)
  (fun v h'=>False)
  (by intro k ρ h' _;simp only[Je])
  (by
   rintro k ρ h' lt ⟨⟨y12,y13,y14,y15,rfl⟩,us,rfl,U'⟩
   refine⟨ρB x3 x4 x7 p (.int (us.length:Int)) y13 y14 y15,rfl,?_⟩
   refine q0 ?_;intro Q;obtain⟨z13,z14,z15,h3,u,e3,U3⟩:=Eh (ns:=ns) (n:=n) (x3:=x3) (x4:=x4) (x7:=x7) (x13:=y13) (x14:=y14) (x15:=y15) hn U' ht (Nat.le_of_lt (Nat.lt_trans lt (Nat.lt_of_lt_of_le m2 (by decide))))
   exact⟨.nxt,_,h3,e3,Or.inr ⟨Or.inl rfl,⟨_,_,_,_,rfl⟩,us++[u],by simp,U3⟩⟩)
  m 0 64 (ρB x3 x4 x7 p x12 x13 x14 x15) h1 (by exact o30) (by omega) ⟨⟨_,_,_,_,rfl⟩,[],rfl,U1⟩
 obtain⟨fl,ρ',h',e,r⟩:=H
 rcases r with ⟨v,rfl,F⟩|⟨rfl,⟨y12,y13,y14,y15,rfl⟩,us,_,U'⟩
 ·exact F.elim
 exact⟨y12,y13,y14,y15,h',us,YG e1 e,U'⟩
end
end
section
def ZX (h:H)(B l:Nat)(rows:List Rw)(gs:List Gm):Prop:=B≤l∧∃as:List PV,h[l]?=some (.lst as)∧as.length=rows.length∧∀(j:Nat) (r:Rw),rows[j]?=some r→∃a,as[j]?=some (.loc a)∧B≤a∧h[a]?=some (.lst (Yh (laL r.nm r.vs gs)))
section
variable {ns:List Int} {n:Nat} {h h':H} {rows:List Rw} {gs gs':List Gm} {ρ:Lc} {l s lu B b:Nat} {e:EX} {us:List Gu} {p:Pl} {ds:List PV}
theorem ZX.keep (A:ZX h B l rows gs)(f:∀k,B≤k→k<h.length→h'[k]?=h[k]?):ZX h' B l rows gs:=by
 obtain⟨b,as,e,al,q⟩:=A
 refine⟨b,as,(f l b (Qc e)).trans e,al,fun j r er=>?_⟩
 obtain⟨a,ea,ba,na⟩:=q j r er
 exact⟨a,ea,ba,(f a ba (Qc na)).trans na⟩
theorem ZX.mono (A:ZX h B l rows gs)(k:b≤B):ZX h b l rows gs:=by
 obtain⟨q,as,e,al,f⟩:=A
 refine⟨by omega,as,e,al,fun j r er=>?_⟩
 obtain⟨a,ea,ba,na⟩:=f j r er
 exact⟨a,ea,by omega,na⟩
def Uq (rows:List Rw)(gs gs':List Gm):Bool:=rows.all fun r=>eqNs (laL r.nm r.vs gs) (laL r.nm r.vs gs')
theorem RT {h:H}{gs gs':List Gm}{rows:List Rw}{as bs:List PV}(e1:as.length=rows.length)(e2:bs.length=rows.length)
  (f:∀(j:Nat) (r:Rw),rows[j]?=some r→∃a,as[j]?=some (.loc a)∧h[a]?=some (.lst (Yh (laL r.nm r.vs gs))))
  (g:∀(j:Nat) (r:Rw),rows[j]?=some r→∃a,bs[j]?=some (.loc a)∧h[a]?=some (.lst (Yh (laL r.nm r.vs gs')))):Yq (eqV h 5) as bs=some (Uq rows gs gs'):=by
 induction rows generalizing as bs with
 |nil=>
  cases List.length_eq_zero_iff.mp e1
  cases List.length_eq_zero_iff.mp e2
  rfl
 |cons r rows ih=>
  obtain⟨a,ea,na⟩:=f 0 r rfl
  obtain⟨b,eb,nb⟩:=g 0 r rfl
  cases as with
  |nil=>exact fo ea
  |cons x as=>
  cases bs with
  |nil=>exact fo eb
  |cons y bs=>
  cases Option.some.inj ea
  cases Option.some.inj eb
  have ih:=ih (Nat.succ.inj e1) (Nat.succ.inj e2) (fun j r er=>f (j+1) r er) (fun j r er=>g (j+1) r er)
  clear f g ea eb e1 e2;have hd:eqV h 5 (.loc a) (.loc b)=some (eqNs (laL r.nm r.vs gs) (laL r.nm r.vs gs')):=by
   clear ih;rw[eqL na nb]
   rw[Zn,Zn]
   by_cases q:(laL r.nm r.vs gs).length=(laL r.nm r.vs gs').length
   ·rw[q,Nat.beq_refl]
    exact OM 3
   ·rw[Yo q]
    exact congrArg some (decide_eq_false fun z=>q (by have:=congrArg List.length z;rw[List.length_map,List.length_map]at this;exact this)).symm
  show(match eqV h 5 (.loc a) (.loc b)with|some u=>(match Yq (eqV h 5) as bs with|some v=>some (u&&v)|none=>none)|none=>none)=_
  rw[hd,ih]
  rfl
theorem KN {m:Nat}(A:ZX h B l rows gs)(A':ZX h b m rows gs'):eqV h EQ (.loc l) (.loc m)=some (Uq rows gs gs'):=by
 obtain⟨_,as,e,al,f⟩:=A
 obtain⟨_,bs,e',bl,g⟩:=A'
 refine YU e e' ?_
 simp only[al,bl,Nat.beq_refl]
 exact RT al bl (fun j r er=>by obtain⟨a,x,_,y⟩:=f j r er;exact⟨a,x,y⟩) (fun j r er=>by obtain⟨a,x,_,y⟩:=g j r er;exact⟨a,x,y⟩)
theorem HQ (hn:2≤n)(M:MS h gs)(he:e (Qb ns n) ns ρ h=some (.loc lu,h))(hlu:h[lu]?=some (.lst (rows.map NM)))(rl:rows.length≤50)(wf:∀r∈rows,Vh h r)
  (hx:∀q p,Ya (QW (QW ρ s q) s p) s=p) (g6:∀q p,Ya (QW (QW ρ s q) s p) 6=.loc 35):
  ∃h',QJ (QO e) (.one s) [] (Qn 74 [(Qa 6),(Qi (Qa s) (Qj 0)),(Qi (Qa s) (Qj 1))]) (Qb ns n) ns ρ h=some (.loc h.length,h')∧Ext h h'∧ZX h' h.length h.length rows gs:=by
 refine q0 ?_;intro Q
 have X:=HT (C:=Qb ns n) (ns:=ns) (ρ:=ρ) (h:=h) (t:=.one s) (ifl:=[]) (e:=Qn 74 [(Qa 6),(Qi (Qa s) (Qj 0)),(Qi (Qa s) (Qj 1))]) (it:=QO e) (src:=.lst lu) (h₁:=h) (K:=rows.length) (items:=fun j=>(rows.map NM).getD j .unb) (ρ₁:=QW ρ s .unb)
  (fun i acc h'=>Ext h h'∧h'[h.length]?=some (.lst acc)∧acc.length=i∧i≤rows.length∧∀(j:Nat) (r:Rw),j<i→rows[j]?=some r→∃a,acc[j]?=some (.loc a)∧h.length<a∧h'[a]?=some (.lst (Yh (laL r.nm r.vs gs))))
  (Np he (BL hlu)) rfl (by omega) ⟨.snoc .refl,Qe,rfl,by omega,fun j r hj=>by exact o103 hj⟩
  (fun i acc h' S=>by have:=S.2.2.1;have:=S.2.2.2.1;exact o330 S rl)
  (fun i acc h' S=>by
   have len:(rows.map NM).length=rows.length:=List.length_map _
   rw[YJ (S.1.get hlu)]
   split
   ·rename_i c
    rewrite [List.getElem?_eq_getElem (by rw[len];exact c),List.getD_eq_getElem?_getD,List.getElem?_eq_getElem (by rw[len];exact c)]
    rfl
   ·rename_i c
    rw[List.getElem?_eq_none (by rw[len];exact o104 len S c)])
  (by
   intro i acc h' lt hI;obtain⟨E,ea,al,il,f⟩:=hI
   have er:=List.getElem?_eq_getElem lt
   generalize rows[i]=r at er
   have it:(rows.map NM).getD i .unb=NM r:=by
    simp only[List.getD_eq_getElem?_getD,List.getElem?_map,er]
    rfl
   rw[it]
   clear it;obtain⟨w1,w2,w3,w4⟩:=wf r (List.mem_of_getElem? er)
   have c:=Qba (ns:=ns) (n:=n) (nm:=r.nm) hn (M.ext E) (E.get w4) w2 w3
   have hl:=E.le
   have lt':=Qc ea
   refine⟨_,rfl,true,h',rfl,fun q=>(by refine q0 ?_;intro Q;cases q),fun Z=>⟨.loc h'.length,h'++[.lst (Yh (laL r.nm r.vs gs))],?_,Qf ea,fun h3 s3=>?_⟩⟩
   ·have gv:Qa s (Qb ns n) ns (QW (QW ρ s .unb) s (NM r)) h'=some (NM r,h'):=YM (hx _ _) rfl
    refine Wu (Yd (YM (g6 _ _) rfl) (Yd (Bl gv Zg (Ng (ps:=[.sym r.nm,.loc r.wl]) (v:=.sym r.nm) rfl)) (Yd (Bl gv Zg (Ng (ps:=[.sym r.nm,.loc r.wl]) (v:=.loc r.wl) rfl)) JE))) c
   ·have e2:(h'++[AO.lst (Yh (laL r.nm r.vs gs))])[h.length]?=some (.lst acc):=Qf ea
    obtain⟨h4,r4,a4,b4,l4,x4⟩:=QC e2 (.lst (acc++[.loc h'.length]))
    have:h4=h3:=r4.symm.trans s3
    clear s3;subst this
    refine⟨x4 h (E.snoc) (Nat.le_refl _),a4,by simp[al],by omega,fun j r' hj er'=>?_⟩
    clear lt;by_cases q:j=i
    ·subst q
     rewrite [er]at er'
     cases er'
     refine⟨h'.length,by rw[←al];simp,lt',?_⟩
     rw[b4 _ (by exact o38 lt')]
     exact Qe
    ·obtain⟨a,ea',la,na⟩:=f j r' (by omega) er'
     refine⟨a,by rw[List.getElem?_append_left (Qc ea')];exact ea',la,?_⟩
     rw[b4 _ (by exact o38 la)]
     exact Qf na)
 obtain⟨acc,h',ec,E,ea,al,_,f⟩:=X
 refine⟨h',ec,E,Nat.le_refl _,acc,ea,al,fun j r er=>?_⟩
 obtain⟨a,x,y,z⟩:=f j r (Qc er) er
 exact⟨a,x,by exact o67 y,z⟩
def Od (h:H)(B l:Nat)(us:List Gu)(gs:List Gm):Prop:=B≤l∧∃bs:List PV,h[l]?=some (.lst bs)∧bs.length=us.length∧∀(j:Nat) (u:Gu),us[j]?=some u→∃b,bs[j]?=some (.loc b)∧ZX h B b u.rows gs
theorem Od.keep (A:Od h B l us gs)(f:∀k,B≤k→k<h.length→h'[k]?=h[k]?):Od h' B l us gs:=by
 obtain⟨b,as,e,al,q⟩:=A
 refine⟨b,as,(f l b (Qc e)).trans e,al,fun j r er=>?_⟩
 obtain⟨a,ea,na⟩:=q j r er
 exact⟨a,ea,na.keep f⟩
def Ft:EX:=QJ (QO (Qa 10)) (.one 22) [] (QJ (QO (Qa 22)) (.one 23) [] (Qn 74 [(Qa 6),(Qi (Qa 23) (Qj 0)),(Qi (Qa 23) (Qj 1))]))
theorem SG (hn:2≤n)(M:MS h gs)(U:US h us ds p)(g10:Ya ρ 10=.loc p.la)(hx:∀q p,Ya (QW (QW ρ 22 q) 22 p) 22=p)
  (hx3:∀v w q p,Ya (QW (QW (QW (QW ρ 22 v) 22 w) 23 q) 23 p) 23=p) (g6:∀v w q p,Ya (QW (QW (QW (QW ρ 22 v) 22 w) 23 q) 23 p) 6=.loc 35):
  ∃h',Ft (Qb ns n) ns ρ h=some (.loc h.length,h')∧Ext h h'∧Od h' h.length h.length us gs:=by
 refine q0 ?_;intro Q
 have lus:=U.len
 have X:=HT (C:=Qb ns n) (ns:=ns) (ρ:=ρ) (h:=h) (t:=.one 22) (ifl:=[]) (e:=(QJ (QO (Qa 22)) (.one 23) [] (Qn 74 [(Qa 6),(Qi (Qa 23) (Qj 0)),(Qi (Qa 23) (Qj 1))]))) (it:=QO (Qa 10)) (src:=.lst p.la) (h₁:=h) (K:=us.length) (items:=fun j=>(us.map luV).getD j .unb) (ρ₁:=QW ρ 22 .unb)
  (fun i acc h'=>Ext h h'∧h'[h.length]?=some (.lst acc)∧acc.length=i∧i≤us.length∧∀(j:Nat) (u:Gu),j<i→us[j]?=some u→∃b,acc[j]?=some (.loc b)∧ZX h' (h.length+1) b u.rows gs)
  (Np (YM g10 rfl) (BL U.l)) rfl (by omega) ⟨.snoc .refl,Qe,rfl,by omega,fun j r hj=>by exact o103 hj⟩
  (fun i acc h' S=>by have:=S.2.2.1;have:=S.2.2.2.1;exact o331 S lus)
  (fun i acc h' S=>by
   have len:(us.map luV).length=us.length:=List.length_map _
   rw[YJ (S.1.get U.l)]
   split
   ·rename_i c
    rewrite [List.getElem?_eq_getElem (by rw[len];exact c),List.getD_eq_getElem?_getD,List.getElem?_eq_getElem (by rw[len];exact c)]
    rfl
   ·rename_i c
    rw[List.getElem?_eq_none (by rw[len];exact o104 len S c)])
  (by
   intro i acc h' lt hI;obtain⟨E,ea,al,il,f⟩:=hI
   clear il;have er:=List.getElem?_eq_getElem lt
   generalize us[i]=u at er
   have it:(us.map luV).getD i .unb=.loc u.lu:=by
    simp only[List.getD_eq_getElem?_getD,List.getElem?_map,er]
    rfl
   rw[it]
   clear it;have G:=(U.ext E).g u (List.mem_of_getElem? er)
   have hl:=E.le
   have lt':=Qc ea
   obtain⟨h2,c,E2,A2⟩:=HQ (ns:=ns) (n:=n) (e:=Qa 22) (ρ:=QW (QW ρ 22 .unb) 22 (.loc u.lu)) (s:=23) (lu:=u.lu) (rows:=u.rows) hn (M.ext E) (YM (hx _ _) rfl) G.lu (by have:=G.len.1;omega) G.rows (fun q p=>hx3 _ _ q p) (fun q p=>g6 _ _ q p)
   refine⟨_,rfl,true,h',rfl,fun q=>(by refine q0 ?_;intro Q;cases q),fun Z=>⟨.loc h'.length,h2,c,E2.get ea,fun h3 s3=>?_⟩⟩
   have e2:h2[h.length]?=some (.lst acc):=E2.get ea
   obtain⟨h4,r4,a4,b4,l4,x4⟩:=QC e2 (.lst (acc++[.loc h'.length]))
   have:h4=h3:=r4.symm.trans s3
   clear s3;subst this
   refine⟨x4 h (E.trans E2) (Nat.le_refl _),a4,by simp[al],by omega,fun j u' hj er'=>?_⟩
   clear lt;by_cases q:j=i
   ·subst q
    rewrite [er]at er'
    cases er'
    exact⟨h'.length,by rw[←al];simp,(A2.mono (by omega)).keep fun k hk Z=>b4 k (by exact o105 hk)⟩
   ·obtain⟨b,eb,A⟩:=f j u' (by omega) er'
    exact⟨b,by rw[List.getElem?_append_left (Qc eb)];exact eb,(A.keep fun k Z hk=>E2.old hk).keep fun k hk Z=>b4 k (by exact o105 hk)⟩)
 obtain⟨acc,h',ec,E,ea,al,_,f⟩:=X
 refine⟨h',ec,E,Nat.le_refl _,acc,ea,al,fun j r er=>?_⟩
 obtain⟨a,x,y⟩:=f j r (Qc er) er
 exact⟨a,x,y.mono (by exact o58)⟩
end
end
section
noncomputable abbrev ρC (x3 x4 x7:PV) (p:Pl) (x12 x13 x14 x15 x16 x17 x18:PV):Lc:=[.scr,.loc 0,.loc 1,x3,x4,.loc 32,.loc 35,x7,.loc p.le,.loc p.lw,.loc p.la,.loc p.du,x12,x13,x14,x15,x16,x17,x18,.unb,.unb,.unb,.unb,.unb,.unb,.unb]
def hlB:List SX:=[(sIf (Yk [(tE (eIs (Qi (Qi (Qa 11) (Qa 12)) (Qj 1)) QT)),(tE (eNe (QJ (QO (Qi (Qa 10) (Qa 12))) (.one 24) [] (Qn 74 [(Qa 6),(Qi (Qa 24) (Qj 0)),(Qi (Qa 24) (Qj 1))])) (Qi (Qa 16) (Qa 12))))]) [(sExp (Q8 (Qa 18) (Qa 12))),(BE (Qa 11) (Qa 12) (QK [(Qi (Qi (Qa 11) (Qa 12)) (Qj 0)),(Qk (Qa 5) 51)]))] [])]
def chg (gs gs':List Gm)(us:List Gu)(i:Nat):Bool:=match us[i]? with
 |some u=>u.to.isNone&&!Uq u.rows gs' gs
 |none=>false
def Yv (gs gs':List Gm)(us:List Gu)(k:Nat):List Nat:=(List.range k).filter (chg gs gs' us)
section
variable {ns:List Int} {n:Nat} {hP h:H} {gs gs':List Gm} {B b W:Nat} {us:List Gu} {p:Pl} {x3 x4 x7 x12 x13 x14 x15 x17:PV}
theorem Nf {k:Nat}:Yv gs gs' us (k+1)=Yv gs gs' us k++(if chg gs gs' us k then[k]else[]):=by
 unfold Yv
 simp only[List.range_succ,List.filter_append]
 congr 1
 cases q:chg gs gs' us k with
 |true=>rw[List.filter_cons_of_pos q];rfl
 |false=>rw[List.filter_cons_of_neg (by rw[q];simp)];rfl
theorem RM {k i:Nat}(hi:i∈Yv gs gs' us k):i<k:=List.mem_range.mp (List.mem_filter.mp hi).1
theorem KK {k:Nat}:(Yv gs gs' us k).length≤k:=by
 have:=List.length_filter_le (chg gs gs' us) (List.range k)
 rw[List.length_range]at this
 exact this
theorem MS.keep (M:MS h gs){h':H}(e35:h'[35]?=h[35]?)(f:∀g∈gs,g.to=none→h'[g.wl]?=h[g.wl]?):MS h' gs:=⟨e35.trans M.l,fun g hg to=>(f g hg to).trans (M.w g hg to),M.nu,M.len,M.wf⟩
theorem PI (hn:2≤n)(M:MS hP gs')(U:US hP us (us.map bnd) p)(A:Od hP B b us gs)(dB:p.du<B)(ht:hP[32]?=some (.ins 9 [(4,.loc 1),(21,.loc 33),(50,.loc 34),(51,.int (W:Int))]))
  (wd:∀g∈gs',g.to=none→g.wl≠p.du) (ug:∀u∈us,∀l,LB u l→l≠p.du) (la:p.la≠p.du) (d35:p.du≠35):
  ∃x h',YF (.one 12) (QN hlB) 64 (.rng 0 us.length) 0 (Qb ns n) ns (ρC x3 x4 x7 p x12 x13 x14 x15 (.loc b) x17 (.loc hP.length)) (hP++[.lst []])=some ((.nxt,ρC x3 x4 x7 p x x13 x14 x15 (.loc b) x17 (.loc hP.length)),h')∧hP.length<h'.length∧(∀l,l<hP.length→l≠p.du→h'[l]?=hP[l]?)∧h'[hP.length]?=some (.lst (YY (Yv gs gs' us us.length)))∧h'[p.du]?=some (.lst ((Y9 (Yv gs gs' us us.length) W us).map bnd)):=by
 refine q0 ?_;intro Q
 have lus:=U.len
 have ldu:p.du<hP.length:=Qc U.u
 have lla:p.la<hP.length:=Qc U.l
 obtain⟨bB,bs,eb,bl,fb⟩:=A
 have lb:=Qc eb
 have H:=Q4 (t:=.one 12) (body:=QN hlB) (src:=.rng 0 us.length) (C:=Qb ns n) (ns:=ns) (K:=us.length) (items:=fun j=>.int (j:Int))
  (fun k ρ h'=>(∃x,ρ=ρC x3 x4 x7 p x x13 x14 x15 (.loc b) x17 (.loc hP.length))∧hP.length<h'.length∧(∀l,l<hP.length→l≠p.du→h'[l]?=hP[l]?)∧h'[hP.length]?=some (.lst (YY (Yv gs gs' us k)))∧h'[p.du]?=some (.lst ((Y9 (Yv gs gs' us k) W us).map bnd)))
  (fun v h'=>False)
  (by intro k ρ h' _;simp only[Je])
  (by
   intro k ρ h' lt hI;obtain⟨⟨x,rfl⟩,lh,f,eh,ed⟩:=hI
   refine⟨ρC x3 x4 x7 p (.int (k:Int)) x13 x14 x15 (.loc b) x17 (.loc hP.length),rfl,?_⟩
   refine q0 ?_;intro Q;have eu:=List.getElem?_eq_getElem lt
   generalize us[k]=u at eu
   have mu:u∈us:=List.mem_of_getElem? eu
   have nk:k∉Yv gs gs' us k:=fun q=>by have:=RM q;exact o42 this
   have idu:Yw ((Y9 (Yv gs gs' us k) W us).map bnd) (k:Int)=some (bnd u):=YI (by exact o51 lt lus bl) (by simp only[List.getElem?_map,JV,eu];simp[nk])
   have noch:∀h2,Ext h' h2→chg gs gs' us k=false→(∃x,ρC x3 x4 x7 p (.int (k:Int)) x13 x14 x15 (.loc b) x17 (.loc hP.length)=ρC x3 x4 x7 p x x13 x14 x15 (.loc b) x17 (.loc hP.length))∧hP.length<h2.length∧(∀l,l<hP.length→l≠p.du→h2[l]?=hP[l]?)∧h2[hP.length]?=some (.lst (YY (Yv gs gs' us (k+1))))∧h2[p.du]?=some (.lst ((Y9 (Yv gs gs' us (k+1)) W us).map bnd)):=fun h2 E c=>by
    simp only[Nf,c,if_neg (by simp),List.append_nil]
    exact⟨⟨_,rfl⟩,by have:=E.le;omega,fun l hl hd=>(E.old (by exact o68 hl lh)).trans (f l hl hd),E.get eh,E.get ed⟩
   have ec:chg gs gs' us k=(u.to.isNone&&!Uq u.rows gs' gs):=by unfold chg;rw[eu]
   cases et:u.to with
   |some t=>
    simp only[et]at ec
    unfold bnd at idu
    rw[et]at idu
    unfold toV at idu
    dsimp only at idu
    refine⟨.nxt,_,h',?_,Or.inr ⟨Or.inl rfl,noch h' .refl ec⟩⟩
    unfold hlB
    walk_at "ss"
   |none=>
    rw[et]at ec
    have la':h'[p.la]?=some (.lst (us.map luV)):=(f _ lla la).trans U.l
    have ila:Yw (us.map luV) (k:Int)=some (.loc u.lu):=YI (by exact o51 lt lus bl) (by simp only[List.getElem?_map,eu];rfl)
    have M':MS h' gs':=M.keep (f 35 (Qc M.l) (Ne.symm d35)) fun g hg to=>f _ (Qc (M.w g hg to)) (wd g hg to)
    have G:Lg h' u:=(U.g u mu).keep fun l hl=>f l (U.lt (Or.inr (Or.inr (Or.inr (Or.inr (Or.inr (Or.inr ⟨u,mu,hl⟩))))))) (ug u mu l hl)
    obtain⟨h2,e2,E2,A2⟩:=HQ (ns:=ns) (n:=n) (e:=Qi (Qa 10) (Qa 12)) (ρ:=ρC x3 x4 x7 p (.int (k:Int)) x13 x14 x15 (.loc b) x17 (.loc hP.length)) (s:=24) (lu:=u.lu) (rows:=u.rows) (h:=h') hn M' (by walk_at "e") G.lu (by have:=G.len.1;omega) G.rows (fun q p=>rfl) (fun q p=>rfl)
    obtain⟨bk,ebk,Ak⟩:=fb k u eu
    have ibk:Yw bs (k:Int)=some (.loc bk):=YI (by exact o51 lt lus bl) ebk
    have f2:∀l,l<hP.length→l≠p.du→h2[l]?=hP[l]?:=fun l hl hd=>(E2.old (by exact o68 hl lh)).trans (f l hl hd)
    have eb2:h2[b]?=some (.lst bs):=(f2 b lb (by exact o106 dB bB)).trans eb
    have Ak2:ZX h2 B bk u.rows gs:=Ak.keep fun l hl ll=>f2 l ll (by exact o106 dB hl)
    have eq:=KN A2 Ak2
    have hib:(fun v=>(idu)) ()=idu:=rfl
    unfold bnd at idu
    rw[et]at idu
    unfold toV at idu
    dsimp only at idu
    cases q:Uq u.rows gs' gs with
    |true=>
     refine q0 ?_;intro Q;rw[q]at eq ec
     refine⟨.nxt,_,h2,?_,Or.inr ⟨Or.inl rfl,noch h2 E2 ec⟩⟩
     unfold hlB
     walk_at "ss"
    |false=>
     refine q0 ?_;intro Q;rw[q]at eq ec
     have eh2:h2[hP.length]?=some (.lst (YY (Yv gs gs' us k))):=E2.get eh
     have ed2:h2[p.du]?=some (.lst ((Y9 (Yv gs gs' us k) W us).map bnd)):=E2.get ed
     have hl:=KK (gs:=gs) (gs':=gs') (us:=us) (k:=k)
     have shh:QG (YY (Yv gs gs' us k))=true:=Yu (by unfold YY;rw[List.length_map];exact o332 lt lus bl hl)
     obtain⟨h3,r3,a3,b3,l3,_⟩:=QC eh2 (.lst (YY (Yv gs gs' us k)++[.int (k:Int)]))
     have ed3:h3[p.du]?=some (.lst ((Y9 (Yv gs gs' us k) W us).map bnd)):=(b3 _ (by exact o39 ldu)).trans ed2
     have t3:h3[32]?=some (.ins 9 [(4,.loc 1),(21,.loc 33),(50,.loc 34),(51,.int (W:Int))]):=by
      have h32:=Qc ht
      simp only[b3 32 (by exact o333 h32),f2 32 h32 (QY ht U.u (by simp))]
      exact ht
     have kk:(Yt (k:Int)&&decide (0≤(k:Int))&&Nat.blt (k:Int).toNat ((Y9 (Yv gs gs' us k) W us).map bnd).length)=true:=by
      rewrite [JK (by exact o51 lt lus bl),Int.toNat_natCast,show Nat.blt k ((Y9 (Yv gs gs' us k) W us).map bnd).length=true from Nat.ble_eq_true_of_le (by rw[List.length_map,Bm];omega)]
      simp
     obtain⟨h4,r4,a4,b4,l4,_⟩:=QC ed3 (.lst (((Y9 (Yv gs gs' us k) W us).map bnd).set (k:Int).toNat (.tup [.int (u.fr:Int),.int (W:Int)])))
     refine⟨.nxt,ρC x3 x4 x7 p (.int (k:Int)) x13 x14 x15 (.loc b) x17 (.loc hP.length),h4,?_,Or.inr ⟨Or.inl rfl,⟨_,rfl⟩,by have:=E2.le;exact o334 lh this l3 l4,fun l hl hd=>?_,?_,?_⟩⟩
     ·unfold hlB
      walk_at "ss"
     ·simp only[b4 l hd,b3 l (by exact o39 hl),f2 l hl hd]
     ·rw[b4 _ (by exact o38 ldu),a3,Nf,ec]
      unfold YY
      simp
     ·rewrite [a4,Int.toNat_natCast,Nf,ec,if_pos (by rfl),←Gj eu]
      rfl)
  us.length 0 64 (ρC x3 x4 x7 p x12 x13 x14 x15 (.loc b) x17 (.loc hP.length)) (hP++[.lst []]) (by exact o30) (by exact o63 bl lus) ⟨⟨_,rfl⟩,by simp,fun l hl Z=>List.getElem?_append_left hl,Qe,by
   rw[show Yv gs gs' us 0=[]from rfl,BJ]
   exact Qf U.u⟩
 obtain⟨fl,ρ',h',e,r⟩:=H
 rcases r with ⟨v,rfl,F⟩|⟨rfl,⟨x,rfl⟩,lh,f,eh,ed⟩
 ·exact F.elim
 exact⟨x,h',e,lh,f,eh,ed⟩
end
end
section
structure CS (h:H) (gs:List Gm) (W:Nat) (tb:Nat→Option (Nat×Nat)) (us:List Gu) (p:Pl):Prop where
 s:PuS h gs W tb
 u:US h us (us.map bnd) p
 j:Jar h
 d:∀l,Wh us p l→¬own tb gs l∧36≤l
 n:p.ld≠p.wd∧p.la≠p.du
 g:∀u∈us,∀l,LB u l→l≠p.la∧l≠p.du
 w:∀g∈gs,g.to=none→g.wl≠p.du
section
variable {h h':H} {gs gs':List Gm} {W t:Nat} {us:List Gu} {p:Pl} {ds ds':List PV} {S:List Nat} {tb:Nat→Option (Nat×Nat)}
theorem HG {h:H}:∀{is:List Nat},Yq (eqV h 5) (YY is) (YY is)=some true
 |[]=>rfl
 |i::is=>by
  show(match eqV h 5 (.int (i:Int)) (.int (i:Int))with|some a=>(match Yq (eqV h 5) (YY is) (YY is)with|some b=>some (a&&b)|none=>none)|none=>none)=_
  rw[HG (is:=is)]
  show some (((i:Int)==(i:Int))&&true)=_
  simp
theorem V8 {h:H}{u:Gu}:eqV h 5 (bnd u) (bnd u)=some true:=by
 unfold bnd
 cases u.to with
 |none=>
  show some (((u.fr:Int)==(u.fr:Int))&&(true&&true))=_
  simp
 |some t=>
  show some (((u.fr:Int)==(u.fr:Int))&&(((t:Int)==(t:Int))&&true))=_
  simp
theorem Pw {h:H}:∀{us:List Gu},Yq (eqV h 5) (us.map bnd) (us.map bnd)=some true
 |[]=>rfl
 |u::us=>by
  show(match eqV h 5 (bnd u) (bnd u)with|some a=>(match Yq (eqV h 5) (us.map bnd) (us.map bnd)with|some b=>some (a&&b)|none=>none)|none=>none)=_
  rw[Pw (us:=us),V8]
  rfl
theorem UE {u':Gu}(hu:u'∈Y9 S t us):∃u∈us,u'.rows=u.rows∧u'.rs=u.rs∧u'.lu=u.lu∧u'.rl=u.rl:=by
 obtain⟨i,e⟩:=List.mem_iff_getElem?.mp hu
 simp only[JV]at e
 cases q:us[i]? with
 |none=>refine q0 ?_;intro Q;rw[q]at e;cases e
 |some u=>
  rw[q]at e
  refine⟨u,List.mem_of_getElem? q,?_⟩
  have e:=Option.some.inj e
  subst e
  dsimp only
  split<;>exact⟨rfl,rfl,rfl,rfl⟩
theorem DD {f:Gu→PV}(hf:∀(u:Gu) (o:Option Nat),f {u with to:=o}=f u):(Y9 S t us).map f=us.map f:=by
 apply List.ext_getElem?
 intro i
 simp only[List.getElem?_map,List.getElem?_map,JV]
 cases us[i]? with
 |none=>rfl
 |some u=>
  show some (f (if i∈S then _ else _))=some (f u)
  split
  ·rw[hf]
  ·rfl
theorem Dj {l:Nat}(o:Wh (Y9 S t us) p l):Wh us p l:=by
 rcases o with o|o|o|o|o|o|⟨u',hu,o⟩
 ·exact Or.inl o
 ·exact Or.inr (Or.inl o)
 ·exact Or.inr (Or.inr (Or.inl o))
 ·exact Or.inr (Or.inr (Or.inr (Or.inl o)))
 ·exact Or.inr (Or.inr (Or.inr (Or.inr (Or.inl o))))
 ·exact Or.inr (Or.inr (Or.inr (Or.inr (Or.inr (Or.inl o)))))
 ·obtain⟨u,mu,e1,e2,e3,e4⟩:=UE hu
  rw[e1,e3,e4]at o
  exact Or.inr (Or.inr (Or.inr (Or.inr (Or.inr (Or.inr ⟨u,mu,o⟩)))))
theorem US.ended (U:US h us ds p)(n:p.ld≠p.wd∧p.la≠p.du)(g:∀u∈us,∀l,LB u l→l≠p.la∧l≠p.du)(f:∀l,Wh us p l→l≠p.du→l≠p.wd→h'[l]?=h[l]?)
  (ex:h'[p.wd]?=some (.dct (QH 0 ((Y9 S t us).map bnd)))) (eu:h'[p.du]?=some (.lst ds')):US h' (Y9 S t us) ds' p:=by
 refine⟨(f _ (Or.inl rfl) (QY U.e U.u (by simp)) (QY U.e U.x (by simp))).trans U.e,?_,(f _ (Or.inr (Or.inr (Or.inl rfl))) (QY U.w U.u (by simp)) (QY U.w U.x (by simp))).trans U.w,ex,?_,eu,fun u' hu=>?_,by rw[Bm];exact U.len⟩
 ·rw[DD (fun Z Z=>rfl)]
  exact(f _ (Or.inr (Or.inl rfl)) (QY U.d U.u (by simp)) n.1).trans U.d
 ·rw[DD (fun Z Z=>rfl)]
  exact(f _ (Or.inr (Or.inr (Or.inr (Or.inr (Or.inl rfl))))) n.2 (QY U.l U.x (by simp))).trans U.l
 ·obtain⟨u,mu,e1,e2,e3,e4⟩:=UE hu
  have G:Lg h' u:=(U.g u mu).keep fun l hl=>by
   have hll:∃ps,h[l]?=some (.lst ps):=by
    rcases hl with rfl|rfl|⟨r,hr,rfl⟩
    ·exact⟨_,(U.g u mu).lu⟩
    ·exact⟨_,(U.g u mu).rl⟩
    ·exact⟨_,((U.g u mu).rows r hr).2.2.2⟩
   obtain⟨ps,e⟩:=hll
   exact f l (Or.inr (Or.inr (Or.inr (Or.inr (Or.inr (Or.inr ⟨u,mu,hl⟩)))))) (g u mu l hl).2 (QY e U.x (by simp))
  exact⟨by rw[e3,e1];exact G.lu,by rw[e4,e2];exact G.rl,by rw[e1,e2];exact G.len,by rw[e1];exact G.rows,by rw[e1,e2];exact G.rs⟩
theorem US.due (U:US h us ds p)(n:p.ld≠p.wd∧p.la≠p.du)(g:∀u∈us,∀l,LB u l→l≠p.la∧l≠p.du)(f:∀l,Wh us p l→l≠p.du→h'[l]?=h[l]?)(eu:h'[p.du]?=some (.lst ds')):US h' us ds' p:=by
 have:=U.ended (S:=[]) (t:=0) n g (fun l o a Z=>f l o a) (by rw[BJ];exact(f _ (Or.inr (Or.inr (Or.inr (Or.inl rfl)))) (QY U.x U.u (by simp))).trans U.x) eu
 rw[BJ]at this
 exact this
theorem OH {A B:List Gm}:eqNs A B=eqNs B A:=by
 unfold eqNs
 exact decide_eq_decide.mpr ⟨Eq.symm,Eq.symm⟩
theorem Sj {nm m nl wl:Nat}{ws:List Nat}(wf:Wf W gs)(nu:∀(i:Nat) (g:Gm),gs[i]?=some g→g.num=i)(nd:gs.Pairwise fun a b=>∀w,a.nm=b.nm→liveB w a=true→liveB w b=true→a.ws≠b.ws)
  (hN:Nm nm) (hw:L12 ws) (dw:Wds ws) (G:∀u∈us,(∀r∈u.rows,Wds r.vs)∧∀x,x∈u.rs↔∃r∈u.rows,x=(r.nm,r.vs)):
  (uhL (Yy nm ws m nl wl W gs) nm ws W us).filter (ZR us)=Yv gs (Yy nm ws m nl wl W gs) us us.length:=by
 unfold uhL Yv
 rewrite [List.filter_filter]
 refine List.filter_congr fun i hi=>?_
 have hi:=List.mem_range.mp hi
 have eu:=List.getElem?_eq_getElem hi
 generalize us[i]=u at eu
 obtain⟨g1,g2⟩:=G u (List.mem_of_getElem? eu)
 delta ZR chg
 rw[eu]
 show(u.to.isNone&&uhB _ nm ws W u)=(u.to.isNone&&!Uq u.rows _ gs)
 congr 1
 rw[Bool.eq_iff_iff]
 unfold uhB Uq
 rewrite [List.any_eq_true,Bool.not_eq_true',List.all_eq_false]
 constructor
 ·rintro ⟨x,hx,q⟩
  obtain⟨r,hr,rfl⟩:=(g2 x).mp hx
  refine⟨r,hr,?_⟩
  rw[Pk wf nu nd hN hw dw (g1 r hr)]at q
  rw[OH]
  revert q
  cases eqNs (laL r.nm r.vs gs) (laL r.nm r.vs (Yy nm ws m nl wl W gs))<;>simp
 ·rintro ⟨r,hr,q⟩
  refine⟨_,(g2 _).mpr ⟨r,hr,rfl⟩,?_⟩
  rw[Pk wf nu nd hN hw dw (g1 r hr)]
  rewrite [OH]at q
  revert q
  cases eqNs (laL r.nm r.vs gs) (laL r.nm r.vs (Yy nm ws m nl wl W gs))<;>simp
end
end
section
def Pq:List SX:=[(sSet 16 Ft),(sSet 17 Rz),(sSet 18 (QE [])),(YK (.one 12) (QM (Yl (Qa 10))) hlB),(sIf (tOr [(tE (eNe (Qx (Qa 9) 62 [(Qa 17)]) (Qa 18))),(tE (eNe (QJ (QM (Yl (Qa 11))) (.one 25) [] (Qx (Qa 9) 15 [(Qa 25)])) (Qa 11)))]) [Qq] [])]
section
variable {ns:List Int} {n:Nat} {h h':H} {gs:List Gm} {W:Nat} {us:List Gu} {p:Pl} {tb:Nat→Option (Nat×Nat)} {x3 x4 x7 x12 x13 x14 x15 x16 x17 x18:PV} {ds:List PV} {ρ:Lc}
theorem PZ (hn:1≤n)(U:US h us (us.map bnd) p)(g9:∀q p',Ya (QW (QW ρ 25 q) 25 p') 9=.loc p.lw)(g11:Ya ρ 11=.loc p.du)(hx:∀q p,Ya (QW (QW ρ 25 q) 25 p) 25=p):
  ∃h',QJ (QM (Yl (Qa 11))) (.one 25) [] (Qx (Qa 9) 15 [(Qa 25)]) (Qb ns n) ns ρ h=some (.loc h.length,h')∧Ext h h'∧h'[h.length]?=some (.lst (us.map bnd)):=by
 have lus:=U.len
 have len:(us.map bnd).length=us.length:=List.length_map _
 have rg:ZH 0 (((us.map bnd).length:Nat):Int) h=some (.rng 0 us.length,h):=by rw[len];exact J7 (by omega)
 have X:=YO (C:=Qb ns n) (ns:=ns) (ρ:=ρ) (h:=h) (t:=.one 25) (ifl:=[]) (e:=Qx (Qa 9) 15 [(Qa 25)]) (it:=QM (Yl (Qa 11))) (src:=.rng 0 us.length) (h1:=h) (ps:=List.range us.length) (ρ₁:=QW ρ 25 .unb) (fun i:Nat=>.int (i:Int)) (fun Z=>true) (fun i=>(us.map bnd).getD i .unb)
  (ZG (Mf (YM g11 rfl) (Bq U.u (Yu (by omega)))) rg) rfl (by rw[List.length_range];omega)
  (by
   intro i h' E
   rw[Je]
   by_cases q:i<us.length
   ·rw[if_pos q,List.getElem?_range q]
    rfl
   ·rw[if_neg q,List.getElem?_eq_none (by rw[List.length_range];exact o34 len q)]
    rfl)
  (by
   intro i hi
   have hi:=List.mem_range.mp hi
   refine⟨_,rfl,fun h' E=>⟨h',rfl,.refl⟩,fun Z h' E=>⟨h',?_,.refl⟩⟩
   have U':=U.ext E
   have eu:=List.getElem?_eq_getElem hi
   generalize us[i]=u at eu
   have e:(us.map bnd)[i]?=some (bnd u):=by rw[List.getElem?_map,eu];rfl
   have c:=Fj (ns:=ns) (n:=n) (k:=i) hn U'.w U'.x e
   rw[show(us.map bnd).getD i .unb=bnd u by rw[List.getD_eq_getElem?_getD,e];rfl]
   exact O5 (YM (g9 _ _) rfl) U'.w rfl rfl (Yd (YM (hx _ _) rfl) JE) c)
 obtain⟨h',e,E⟩:=X
 have z:((List.range us.length).filter fun Z=>true).map (fun i=>(us.map bnd).getD i .unb)=us.map bnd:=by
  rw[List.filter_eq_self.mpr (fun Z Z=>rfl)]
  apply List.ext_getElem?
  intro i
  rw[List.getElem?_map]
  by_cases q:i<us.length
  ·rewrite [List.getElem?_range q,Option.map_some,List.getD_eq_getElem?_getD,List.getElem?_map,List.getElem?_eq_getElem q]
   rfl
  ·rw[List.getElem?_eq_none (by rw[List.length_range];exact o34 len q),List.getElem?_eq_none (by rw[len];exact o34 len q)]
   rfl
 rw[z]at E
 exact⟨h',e,Ext.trans (.snoc .refl) E,E.get Qe⟩
theorem Ef (hn:24≤n)(S:CS h gs W tb us p)(gl:gs.length≤39):
  ∃y12 y16 y17 y18 h' gs' tb' us',QN Pq (Qb ns n) ns (ρC x3 x4 x7 p x12 x13 x14 x15 x16 x17 x18) h=some ((.nxt,ρC x3 x4 x7 p y12 x13 x14 x15 y16 y17 y18),h')∧CS h' gs' (W+1) tb' us' p∧gs'.length=gs.length+1:=by
 refine q0 ?_;intro Q
 obtain⟨P,U,J,D,N,G,WL⟩:=S
 have lt:∀l,Wh us p l→l<h.length:=fun l o=>U.lt o
 have oe:Wh us p p.le:=Or.inl rfl
 have od:Wh us p p.ld:=Or.inr (Or.inl rfl)
 have ow:Wh us p p.lw:=Or.inr (Or.inr (Or.inl rfl))
 have ox:Wh us p p.wd:=Or.inr (Or.inr (Or.inr (Or.inl rfl)))
 have ol:Wh us p p.la:=Or.inr (Or.inr (Or.inr (Or.inr (Or.inl rfl))))
 have ou:Wh us p p.du:=Or.inr (Or.inr (Or.inr (Or.inr (Or.inr (Or.inl rfl)))))
 have l36:36≤h.length:=Qc P.m.l
 obtain⟨h1,e1,E1,A1⟩:=SG (ns:=ns) (n:=n) (ρ:=ρC x3 x4 x7 p x12 x13 x14 x15 x16 x17 x18) (by omega) P.m U rfl (fun Z Z=>rfl) (fun Z Z Z Z=>rfl) (fun Z Z Z Z=>rfl)
 have le1:=E1.le
 obtain⟨nm,ws,wl,m,nl,h2,tb',e2,hN,hw,dw,J2,P2,F2,o2,wl2⟩:=FN (ns:=ns) (n:=n) (ρ:=ρC x3 x4 x7 p x12 x13 x14 x15 (.loc h.length) x17 x18) (by omega) (by
  obtain⟨a,b,ok,q⟩:=J
  exact⟨a,b,ok,E1.get q⟩:Jar h1) (P.ext E1) gl (by omega) rfl rfl rfl
 have U2:US h2 us (us.map bnd) p:=(U.ext E1).keep fun l o=>F2.2 l (by have:=lt l o;omega) (by have:=(D l o).2;exact o107 this) (by
  rintro (q|q)
  ·have:=(D l o).2;omega
  ·exact(D l o).1 q)
 have A2:Od h2 h.length h.length us gs:=A1.keep fun k k1 k2=>F2.2 k k2 (by exact o335 l36 k1) (by
  rintro (q|q)
  ·omega
  ·have:=P.t.lt q;exact o336 this k1)
 have no2:∀l,Wh us p l→¬own tb' (Yy nm ws m nl wl W gs) l:=fun l o q=>by
  rcases o2 l q with q|q
  ·exact(D l o).1 q
  ·have:=lt l o;exact o337 this le1 q
 have wd2:∀g∈Yy nm ws m nl wl W gs,g.to=none→g.wl≠p.du:=fun y hy yt=>by
  rcases Zi hy with ⟨g,hg,rfl⟩|rfl
  ·rw[OL]
   refine WL g hg ?_
   rcases ZP (nm:=nm) (ws:=ws) (t:=W+1) (g:=g)with r|⟨_,_,_,r⟩
   ·exact r.symm.trans yt
   ·rw[r]at yt;cases yt
  ·have:=lt p.du ou
   show wl≠p.du
   exact o108 this le1 wl2
 have lh2:h1.length≤h2.length:=F2.1
 obtain⟨y12,h3,e3,l3,f3,eh3,ed3⟩:=PI (ns:=ns) (n:=n) (x3:=x3) (x4:=x4) (x7:=x7) (x12:=x12) (x13:=x13) (x14:=x14) (x15:=x15) (x17:=.loc m) (by omega) P2.m U2 A2 (lt p.du ou) P2.t.t wd2 (fun u hu l hl=>(G u hu l hl).2) N.2 (Nat.ne_of_gt (D _ ou).2)
 have lus:=U.len
 have hq:=Sj (nm:=nm) (m:=m) (nl:=nl) (wl:=wl) (ws:=ws) (us:=us) P.t.wf P.t.nu P.t.nd hN hw dw (fun u hu=>⟨fun r hr=>((U.g u hu).rows r hr).2.2.1,(U.g u hu).rs⟩)
 generalize hgs:Yy nm ws m nl wl W gs=gs' at*
 have hnew:h2[m]?=some (JR nm (Ql nm ws) nl (gs.length:Int) ((W+1:Nat):Int)):=(P2.t.m ⟨gs.length,nm,ws,m,nl,wl,W+1,none⟩ (by rw[←hgs];exact List.mem_append_right _ (List.mem_singleton.mpr rfl))).2
 have U3:US h3 us ((Y9 (Yv gs gs' us us.length) (W+1) us).map bnd) p:=U2.due N G (fun l o ne=>f3 l (by have:=lt l o;exact o110 this le1 lh2) ne) ed3
 have T3:TO h3 gs' (W+1) tb':=P2.t.keep (P2.t.k.same fun k hk=>f3 k (by exact o111 l36 le1 lh2 hk) (by have:=(D _ ou).2;omega)) fun l o=>f3 l (P2.t.lt o) fun e=>no2 _ ou (e▸o)
 have hm3:h3[m]?=some (JR nm (Ql nm ws) nl (gs.length:Int) ((W+1:Nat):Int)):=(f3 m (Qc hnew) (QY hnew U2.u (by unfold JR;simp))).trans hnew
 obtain⟨l4,h4,c4,b4,el4,le4,f4,x4'⟩:=XN (ns:=ns) (n:=n) (by omega) T3.ts U3 hm3 hw dw
 rw[hq]at el4 x4'
 have hlt:h2.length≠p.wd:=by have:=lt _ ox;exact o108 this le1 lh2
 have eh4:h4[h2.length]?=some (.lst (YY (Yv gs gs' us us.length))):=(f4 _ l3 hlt).trans eh3
 have eq4:eqV h4 EQ (.loc l4) (.loc h2.length)=some true:=YU el4 eh4 (by rw[Nat.beq_refl];exact HG)
 have du4:h4[p.du]?=some (.lst ((Y9 (Yv gs gs' us us.length) (W+1) us).map bnd)):=(f4 _ (Qc ed3) (QY U2.u U2.x (by simp))).trans ed3
 have same:∀l,l<h2.length→l≠p.du→l≠p.wd→h4[l]?=h2[l]?:=fun l hl a b=>(f4 l (by exact o68 hl l3) b).trans (f3 l hl a)
 have U4:US h4 (Y9 (Yv gs gs' us us.length) (W+1) us) ((Y9 (Yv gs gs' us us.length) (W+1) us).map bnd) p:=U2.ended N G (fun l o a b=>same l (by have:=lt l o;exact o110 this le1 lh2) a b) x4' du4
 obtain⟨h5,e5,E5,el5⟩:=PZ (ns:=ns) (n:=n) (ρ:=ρC x3 x4 x7 p y12 x13 x14 x15 (.loc h.length) (.loc m) (.loc h2.length)) (by omega) U4 (fun Z Z=>rfl) rfl (fun Z Z=>rfl)
 have eq5:eqV h5 EQ (.loc h4.length) (.loc p.du)=some true:=YU el5 (E5.get du4) (by rw[Nat.beq_refl];exact Pw)
 have P4:PuS h4 gs' (W+1) tb':=by
  refine⟨P2.t.keep (P2.t.k.same fun k hk=>same k (by exact o111 l36 le1 lh2 hk) (by have:=(D _ ou).2;omega) (by have:=(D _ ox).2;omega)) fun l o=>same l (P2.t.lt o) (fun e=>no2 _ ou (e▸o)) (fun e=>no2 _ ox (e▸o)),P2.m.keep (same 35 (by exact o338 l36 le1 lh2) (by have:=(D _ ou).2;exact o112 this) (by have:=(D _ ox).2;exact o112 this)) fun g hg to=>same _ (Qc (P2.m.w g hg to)) (wd2 g hg to) (QY (P2.m.w g hg to) U2.x (by simp)),P2.w⟩
 have len:(us.map luV).length=us.length:=List.length_map _
 have la2:(h2++[AO.lst []])[p.la]?=some (.lst (us.map luV)):=Qf U2.l
 have rg:ZH 0 (((us.map luV).length:Nat):Int) (h2++[.lst []])=some (.rng 0 us.length,h2++[.lst []]):=by rw[len];exact J7 (by omega)
 have w3:=U3.w
 refine⟨y12,.loc h.length,.loc m,.loc h2.length,h5,gs',tb',Y9 (Yv gs gs' us us.length) (W+1) us,?_,⟨P4.ext E5,U4.ext E5,?_,fun l o=>⟨no2 l (Dj o),(D l (Dj o)).2⟩,N,fun u' hu l hl=>?_,wd2⟩,by rw[←hgs];exact Zv⟩
 ·unfold Pq
  refine Qt (ZL e1 (ρ':=ρC x3 x4 x7 p x12 x13 x14 x15 (.loc h.length) x17 x18) rfl) (Q2 ?_)
  refine Qt (ZL e2 (ρ':=ρC x3 x4 x7 p x12 x13 x14 x15 (.loc h.length) (.loc m) x18) rfl) (Q2 ?_)
  refine Qt (ZL (MC JE rfl) (ρ':=ρC x3 x4 x7 p x12 x13 x14 x15 (.loc h.length) (.loc m) (.loc h2.length)) rfl) (Q2 ?_)
  refine Qt (YG (ZG (Mf (YM (p:=.loc p.la) rfl rfl) (Bq la2 (Yu (by omega)))) rg) e3) (Q2 ?_)
  refine Qt (Tf (x:=false) (KM (x:=false) (XT (T4 (O5 (l:=p.lw) (YM rfl rfl) w3 rfl rfl (Yd (YM (p:=.loc m) rfl rfl) JE) c4) (YM (p:=.loc h2.length) rfl rfl) eq4)) ?_) W7) (Q2 W7)
  exact KM (x:=false) (XT (T4 e5 (YM (p:=.loc p.du) rfl rfl) eq5)) rfl
 ·obtain⟨a,b,ok,q⟩:=J2
  refine⟨a,b,ok,E5.get ?_⟩
  rw[same 0 (by exact o339 l36 le1 lh2) (by have:=(D _ ou).2;exact o113 this) (by have:=(D _ ox).2;exact o113 this)]
  exact q
 ·obtain⟨u,mu,e1,e2,e3,e4⟩:=UE hu
  refine G u mu l ?_
  unfold LB at*
  rw[e1,e3,e4]at hl
  exact hl
end
end
section
section
variable {ns:List Int} {n:Nat} {h h':H} {gs:List Gm} {W:Nat} {us:List Gu} {p:Pl} {tb:Nat→Option (Nat×Nat)} {x3 x4 x7 x12 x13 x14 x15 x16 x17 x18 x19 x20 x21:PV}
theorem CS.shk (S:CS h gs W tb us p)(K:Shk h h'):CS h' gs W tb us p:=by
 obtain⟨P,U,J,D,N,G,WL⟩:=S
 exact⟨P.shk J K,U.keep fun l o=>K.get (by have:=(D l o).2;exact o107 this),K.jar J.pos,D,N,G,WL⟩
theorem phC (hn:24≤n)(S:CS h gs (gs.length+1) tb us p)(gl:gs.length≤3):
  ∃y7 y12 y16 y17 y18 h' gs' tb' us',YK (.one 7) (QM (Jx (Qj 1) (Qn 69 [(Qa 1),(Qj 3)]))) Pq (Qb ns n) ns (ρC x3 x4 x7 p x12 x13 x14 x15 x16 x17 x18) h=some ((.nxt,ρC x3 x4 y7 p y12 x13 x14 x15 y16 y17 y18),h')∧CS h' gs' (gs'.length+1) tb' us' p∧gs'.length≤6:=by
 refine q0 ?_;intro Q;obtain⟨m,h1,e1,m1,m2,S1⟩:=Ip (ns:=ns) (n:=n) (ρ:=ρC x3 x4 x7 p x12 x13 x14 x15 x16 x17 x18) (by omega) S.j rfl 1 3 (by omega) (by omega) (by omega)
 have H:=Q4 (t:=.one 7) (body:=QN Pq) (src:=.rng 0 m) (C:=Qb ns n) (ns:=ns) (K:=m) (items:=fun j=>.int (j:Int))
  (fun k ρ h'=>(∃y7 y12 y16 y17 y18,ρ=ρC x3 x4 y7 p y12 x13 x14 x15 y16 y17 y18)∧∃gs' tb' us',CS h' gs' (gs'.length+1) tb' us' p∧gs'.length≤3+k)
  (fun v h'=>False)
  (by intro k ρ h' _;simp only[Je])
  (by
   rintro k ρ h' lt ⟨⟨y7,y12,y16,y17,y18,rfl⟩,gs',tb',us',S',gl'⟩
   refine⟨ρC x3 x4 (.int (k:Int)) p y12 x13 x14 x15 y16 y17 y18,rfl,?_⟩
   refine q0 ?_;intro Q;obtain⟨z12,z16,z17,z18,h2,gs2,tb2,us2,e2,S2,l2⟩:=Ef (ns:=ns) (n:=n) (x3:=x3) (x4:=x4) (x7:=.int (k:Int)) (x12:=y12) (x13:=x13) (x14:=x14) (x15:=x15) (x16:=y16) (x17:=y17) (x18:=y18) hn S' (by exact o340 m1 m2 lt gl')
   rw[←l2]at S2
   exact⟨.nxt,_,h2,e2,Or.inr ⟨Or.inl rfl,⟨_,_,_,_,_,rfl⟩,gs2,tb2,us2,S2,by exact o341 l2 gl'⟩⟩)
  m 0 64 (ρC x3 x4 x7 p x12 x13 x14 x15 x16 x17 x18) h1 (by exact o30) (by omega) ⟨⟨_,_,_,_,_,rfl⟩,gs,tb,us,S.shk S1,by omega⟩
 obtain⟨fl,ρ',h',e,r⟩:=H
 rcases r with ⟨v,rfl,F⟩|⟨rfl,⟨y7,y12,y16,y17,y18,rfl⟩,gs',tb',us',S',gl'⟩
 ·exact F.elim
 exact⟨y7,y12,y16,y17,y18,h',gs',tb',us',YG e1 e,S',by exact o342 m1 m2 gl'⟩
noncomputable abbrev ρD (x3 x4 x7:PV) (p:Pl) (x12 x13 x14 x15 x16 x17 x18 x19 x20 x21:PV):Lc:=[.scr,.loc 0,.loc 1,x3,x4,.loc 32,.loc 35,x7,.loc p.le,.loc p.lw,.loc p.la,.loc p.du,x12,x13,x14,x15,x16,x17,x18,x19,x20,x21,.unb,.unb,.unb,.unb]
def Sl:List SX:=[(sSetT [20,21] (Qi (Qa 11) (Qa 12))),(sIf (tE (eNe (Qx (Qa 9) 63 [(Qa 12),(Qa 19)]) (WQ [(eLe (Qa 20) (Qa 19)),(eOr [(eIs (Qa 21) QT),(eLt (Qa 19) (Qa 21))])]))) [Qq] [])]
theorem CM (hn:1≤n)(U:US h us (us.map bnd) p){i w:Nat}{u:Gu}(eu:us[i]?=some u)(hi:i≤50):
  ∃y20 y21,QN Sl (Qb ns n) ns (ρD x3 x4 x7 p (.int (i:Int)) x13 x14 x15 x16 x17 x18 (.int (w:Int)) x20 x21) h=some ((.nxt,ρD x3 x4 x7 p (.int (i:Int)) x13 x14 x15 x16 x17 x18 (.int (w:Int)) y20 y21),h):=by
 have eb:(us.map bnd)[i]?=some (bnd u):=by simp only[List.getElem?_map,eu];rfl
 clear eu;have c:=R9 (ns:=ns) (n:=n) (w:=w) hn U.w U.x eb
 have it:Yw (us.map bnd) (i:Int)=some (bnd u):=YI (by omega) eb
 clear eb;have hdu:=U.u
 have hlw:=U.w
 obtain⟨_,_,_,_,fr,to⟩:=u
 unfold bnd at it
 dsimp only at it
 have c1:(fun a b:Int=>decide (a≤b)) (fr:Int) (w:Int)=Nat.ble fr w:=Kv
 refine⟨.int (fr:Int),toV to,?_⟩
 unfold Sl
 cases q:Nat.ble fr w with
 |false=>
  rw[q]at c1
  rw[show MP w _=false by simp only[MP,q];rfl]at c
  have eq:eqV h EQ (.bool false) (.bool false)=some true:=rfl
  cases to<;>(unfold toV at*;dsimp only at*;walk_at "ss")
 |true=>
  rw[q]at c1
  cases to with
  |none=>
   rw[show MP w _=true by simp only[MP,q];rfl]at c
   unfold toV at*
   walk_at "ss"
  |some t=>
   have c2:(fun a b:Int=>decide (a<b)) (w:Int) (t:Int)=Nat.blt w t:=IM
   rw[show MP w _=Nat.blt w t by simp only[MP,q];rfl]at c
   unfold toV at*
   dsimp only at it
   have eq:eqV h EQ (.bool (Nat.blt w t)) (.bool ((fun a b:Int=>decide (a<b)) (w:Int) (t:Int)))=some true:=by
    rw[c2]
    show some (Nat.blt w t==Nat.blt w t)=_
    simp
   walk_at "ss"
def Ej:List SX:=[(YK (.one 19) (QM (Jx (Qk (Qa 5) 51) (Qj 2))) Sl)]
theorem XZ (hn:1≤n)(U:US h us (us.map bnd) p)(ht:h[32]?=some (.ins 9 [(4,.loc 1),(21,.loc 33),(50,.loc 34),(51,.int (W:Int))]))(hW:W≤50){i:Nat}{u:Gu}(eu:us[i]?=some u)(hi:i≤50):
  ∃y19 y20 y21,QN Ej (Qb ns n) ns (ρD x3 x4 x7 p (.int (i:Int)) x13 x14 x15 x16 x17 x18 x19 x20 x21) h=some ((.nxt,ρD x3 x4 x7 p (.int (i:Int)) x13 x14 x15 x16 x17 x18 y19 y20 y21),h):=by
 refine q1 h ?_;intro Q;have e1:QM (Jx (Qk (Qa 5) 51) (Qj 2)) (Qb ns n) ns (ρD x3 x4 x7 p (.int (i:Int)) x13 x14 x15 x16 x17 x18 x19 x20 x21) h=some (.rng 0 (W+2),h):=
  ZG (Y2 (f:=Hp) (Hf (YM (p:=.loc 32) rfl rfl) ht rfl rfl) Zg rfl) (J7 (k:=W+2) (by exact o343 hW))
 clear ht;have H:=Q4 (t:=.one 19) (body:=QN Sl) (src:=.rng 0 (W+2)) (C:=Qb ns n) (ns:=ns) (K:=W+2) (items:=fun j=>.int (j:Int))
  (fun k ρ h'=>h'=h∧∃y19 y20 y21,ρ=ρD x3 x4 x7 p (.int (i:Int)) x13 x14 x15 x16 x17 x18 y19 y20 y21)
  (fun v h'=>False)
  (by intro k ρ h' _;simp only[Je])
  (by
   clear e1;rintro k ρ h' lt ⟨rfl,y19,y20,y21,rfl⟩
   refine⟨ρD x3 x4 x7 p (.int (i:Int)) x13 x14 x15 x16 x17 x18 (.int (k:Int)) y20 y21,rfl,?_⟩
   refine q0 ?_;intro Q;obtain⟨z20,z21,e⟩:=CM (ns:=ns) (n:=n) (x3:=x3) (x4:=x4) (x7:=x7) (x13:=x13) (x14:=x14) (x15:=x15) (x16:=x16) (x17:=x17) (x18:=x18) (x20:=y20) (x21:=y21) (w:=k) hn U eu hi
   exact⟨.nxt,_,h',e,Or.inr ⟨Or.inl rfl,rfl,_,_,_,rfl⟩⟩)
  (W+2) 0 64 (ρD x3 x4 x7 p (.int (i:Int)) x13 x14 x15 x16 x17 x18 x19 x20 x21) h (by exact o344) (by exact o345 hW) ⟨rfl,_,_,_,rfl⟩
 clear U;obtain⟨fl,ρ',h',e,r⟩:=H
 rcases r with ⟨v,rfl,F⟩|⟨rfl,rfl,y19,y20,y21,rfl⟩
 ·exact F.elim
 exact⟨y19,y20,y21,Qt (YG e1 e) (Q2 W7)⟩
theorem phD (hn:1≤n)(U:US h us (us.map bnd) p)(ht:h[32]?=some (.ins 9 [(4,.loc 1),(21,.loc 33),(50,.loc 34),(51,.int (W:Int))]))(hW:W≤50):
  ∃y12 y19 y20 y21,YK (.one 12) (QM (Yl (Qa 11))) Ej (Qb ns n) ns (ρD x3 x4 x7 p x12 x13 x14 x15 x16 x17 x18 x19 x20 x21) h=some ((.nxt,ρD x3 x4 x7 p y12 x13 x14 x15 x16 x17 x18 y19 y20 y21),h):=by
 refine q1 h ?_;intro Q;have lus:=U.len
 have len:(us.map bnd).length=us.length:=List.length_map _
 have rg:ZH 0 (((us.map bnd).length:Nat):Int) h=some (.rng 0 us.length,h):=by rw[len];exact J7 (by omega)
 have e1:QM (Yl (Qa 11)) (Qb ns n) ns (ρD x3 x4 x7 p x12 x13 x14 x15 x16 x17 x18 x19 x20 x21) h=some (.rng 0 us.length,h):=ZG (Mf (YM (p:=.loc p.du) rfl rfl) (Bq U.u (Yu (by omega)))) rg
 clear rg;have H:=Q4 (t:=.one 12) (body:=QN Ej) (src:=.rng 0 us.length) (C:=Qb ns n) (ns:=ns) (K:=us.length) (items:=fun j=>.int (j:Int))
  (fun k ρ h'=>h'=h∧∃y12 y19 y20 y21,ρ=ρD x3 x4 x7 p y12 x13 x14 x15 x16 x17 x18 y19 y20 y21)
  (fun v h'=>False)
  (by intro k ρ h' _;simp only[Je])
  (by
   clear e1;rintro k ρ h' lt ⟨rfl,y12,y19,y20,y21,rfl⟩
   refine⟨ρD x3 x4 x7 p (.int (k:Int)) x13 x14 x15 x16 x17 x18 y19 y20 y21,rfl,?_⟩
   refine q0 ?_;intro Q;obtain⟨z19,z20,z21,e⟩:=XZ (ns:=ns) (n:=n) (x3:=x3) (x4:=x4) (x7:=x7) (x13:=x13) (x14:=x14) (x15:=x15) (x16:=x16) (x17:=x17) (x18:=x18) (x19:=y19) (x20:=y20) (x21:=y21) hn U ht hW (List.getElem?_eq_getElem lt) (Nat.le_of_lt (Nat.lt_of_lt_of_le lt (Nat.le_trans lus (by decide))))
   exact⟨.nxt,_,h',e,Or.inr ⟨Or.inl rfl,rfl,_,_,_,_,rfl⟩⟩)
  us.length 0 64 (ρD x3 x4 x7 p x12 x13 x14 x15 x16 x17 x18 x19 x20 x21) h (by exact o30) (by exact o63 len lus) ⟨rfl,_,_,_,_,rfl⟩
 clear ht U;obtain⟨fl,ρ',h',e,r⟩:=H
 rcases r with ⟨v,rfl,F⟩|⟨rfl,rfl,y12,y19,y20,y21,rfl⟩
 ·exact F.elim
 exact⟨y12,y19,y20,y21,YG e1 e⟩
theorem EM (hn:1≤n)(U:US h us (us.map bnd) p):QA (T8 (Qx (Qa 9) 63 [(Yl (Qa 11)),(Qj 1)])) (Qb ns n) ns (ρD x3 x4 x7 p x12 x13 x14 x15 x16 x17 x18 x19 x20 x21) h=some ((.ret (.bool true),ρD x3 x4 x7 p x12 x13 x14 x15 x16 x17 x18 x19 x20 x21),h):=by
 have lus:=U.len
 have len:(us.map bnd).length=us.length:=List.length_map _
 have c:=K8 (ns:=ns) (n:=n) (w:=1) hn U.w U.x (k:=(us.map bnd).length) (List.getElem?_eq_none (Nat.le_refl _))
 exact NB (Z6 (f:=EV) (O5 (l:=p.lw) (YM rfl rfl) U.w rfl rfl (Yd (Mf (YM (p:=.loc p.du) rfl rfl) (Bq U.u (Yu (by omega)))) (Yd Zg JE)) c) rfl)
end
end
section
section
variable {C:CT} {ns:List Int} {ρ:Lc} {h h₁ h₂:H} {a b:EX} {k v:PV}
theorem Sw {n:Nat}(e1:a C ns ρ h=some (k,h₁))(e2:b C ns ρ h₁=some (v,h₂))(q:k=.sym n):I5 a b C ns ρ h=some (.loc h₂.length,h₂++[.dct [(k,v)]]):=
 Qv e1 (Qv e2 (by rw[q];rfl))
end
def dsK:List (PV×PV):=[(.sym 9,.loc 3),(.sym 13,.loc 9),(.sym 14,.loc 14),(.sym 12,.loc 19),(.sym 10,.loc 24),(.sym 11,.loc 29)]
def KHp (a b:Int)(i:Nat):H:=((KH a b).take (7+5*i)).set 6 (.dct (dsK.take (i+1)))
noncomputable abbrev ρH (x2 x3 x4:PV):Lc:=[.scr,.loc 0,x2,x3,x4,.unb,.unb,.unb,.unb,.unb,.unb,.unb,.unb,.unb,.unb,.unb,.unb,.unb,.unb,.unb,.unb,.unb,.unb,.unb,.unb,.unb]
def hdB:List SX:=[(sExp (Qx (Qa 2) 59 [(Jl 5 [(Qa 3),(QE []),(eIf (tE (eEq (Qa 4) (Qs 9))) (JF Zb) (QK [(Qs 0),(Qa 4),(QK [])])),(eIn (Qa 3) (QK [(Qs 13),(Qs 14),(Qs 12)])),(YH false),(QE [])])]))]
section
variable {ns:List Int} {n:Nat} {h h':H} {a b:Int} {x3 x4:PV}
theorem GP {p:PV}{nm l1:Nat}{t:Bool}(hn:1≤n)(h1:h[l1]?=some (.lst []))(kp:J4 p=true):Qb ns n 41 [.loc h.length,.sym nm,.loc l1,p,.bool t] (h++[.ins 5 []])=some (.none,h++[JD nm p t (h.length+1) (h.length+2)]++[.lst []]++[.lst []]):=by
 unfold JD
 have q1:h.length+1=(h++[AO.ins 5 [(30,.sym nm)]]).length:=by simp
 have q2:h.length+2=(h++[AO.ins 5 [(30,.sym nm),(31,.loc (h++[AO.ins 5 [(30,.sym nm)]]).length),(32,p),(33,.bool t),(34,.bool false)]]++[AO.lst []]).length:=by simp
 rw[q2,q1]
 refine Zt hn rfl ?_ Qe (Qf (Qf Qe)) (by intro q;cases q)
 apply Qd Ew
 ·walk_at "body"
 ·exact rfl
end
section
variable {ns:List Int} {n:Nat} {h h':H} {a b:Int} {x3 x4:PV}
theorem Ht (hn:2≤n):Qb ns n 43 [.loc 1] ([Zf a b]++[.ins 6 []])=some (.none,KHp a b 0):=by
 have g1:([Zf a b]++[AO.ins 6 []])[1]?=some (.ins 6 []):=rfl
 have st:∃h',Q0 (Qb ns (n - 1)) ns 43 [.loc 1] ([Zf a b]++[.ins 6 []])=some (.none,h')∧h'=KHp a b 0:=by
  apply Exists.intro
  apply And.intro
  ·apply Qd Qa6
   ·walk_at "body"
   ·exact rfl
  ·exact rfl
 obtain⟨h',st,rfl⟩:=st
 exact Zt (l:=1) (o':=.ins 6 [(36,.loc 6)]) (by omega) rfl st g1 rfl (by intro q;cases q)
theorem NH (hn:1≤n):Qb ns n 58 [.loc (KHp a b 5).length,.loc 1] (KHp a b 5++[.ins 9 []])=some (.none,KH a b++[.ins 9 [(4,.loc 1),(21,.loc 33),(50,.loc 34),(51,.int 1)],.dct [],.lst []]):=by
 have st:∃h',Q0 (Qb ns (n - 1)) ns 58 [.loc (KHp a b 5).length,.loc 1] (KHp a b 5++[.ins 9 []])=some (.none,h')∧h'=KH a b++[.ins 9 [(4,.loc 1),(21,.loc 33),(50,.loc 34),(51,.int 1)],.dct [],.lst []]:=by
  apply Exists.intro
  apply And.intro
  ·apply Qd Qbj
   ·walk_at "body"
   ·exact rfl
  ·kernel_rfl
 obtain⟨h',st,rfl⟩:=st
 exact Zt (l:=(KHp a b 5).length) (o':=.ins 9 [(4,.loc 1),(21,.loc 33),(50,.loc 34),(51,.int 1)]) hn rfl st Qe (by kernel_rfl) (by intro q;cases q)
theorem hd0 (hn:2≤n):QN hdB (Qb ns n) ns (ρH (.loc 1) (.sym 13) (.sym 9)) (KHp a b 0)=some ((.nxt,ρH (.loc 1) (.sym 13) (.sym 9)),KHp a b 1):=by
 have g1:(KHp a b 0)[1]?=some (.ins 6 [(36,.loc 6)]):=rfl
 have c2:Qb ns n 44 [.loc 1,.loc (KHp a b 0++[AO.lst []]++[AO.lst []]).length] (KHp a b 0++[.lst []]++[.lst []]++[JD 13 Zb true ((KHp a b 0++[AO.lst []]++[AO.lst []]).length+1) ((KHp a b 0++[AO.lst []]++[AO.lst []]).length+2)]++[.lst []]++[.lst []])=some (.none,KHp a b 1):=by
  have d:=Zk (ns:=ns) (n:=n) (nm:=13) (u:=9) (a:=true) (d:=9) (l:=10) (l':=11) (e:=3) (el:=4) (el':=5) (q:=.none) (ds:=dsK.take 1) (h:=KHp a b 0++[.lst []]++[.lst []]++[JD 13 Zb true ((KHp a b 0++[AO.lst []]++[AO.lst []]).length+1) ((KHp a b 0++[AO.lst []]++[AO.lst []]).length+2)]++[.lst []]++[.lst []]) hn (by kernel_rfl) (by kernel_rfl) (by kernel_rfl) (by kernel_rfl) (by kernel_rfl) (by kernel_rfl) (by kernel_rfl) (by kernel_rfl) (by kernel_rfl) (by kernel_rfl) (by kernel_rfl) (by kernel_rfl)
  refine Eq.trans ?_ (Eq.trans d ?_)
  ·rfl
  ·kernel_rfl
 unfold hdB
 walk_at "ss"
theorem hd1 (hn:2≤n):QN hdB (Qb ns n) ns (ρH (.loc 1) (.sym 14) (.sym 9)) (KHp a b 1)=some ((.nxt,ρH (.loc 1) (.sym 14) (.sym 9)),KHp a b 2):=by
 have g1:(KHp a b 1)[1]?=some (.ins 6 [(36,.loc 6)]):=rfl
 have c2:Qb ns n 44 [.loc 1,.loc (KHp a b 1++[AO.lst []]++[AO.lst []]).length] (KHp a b 1++[.lst []]++[.lst []]++[JD 14 Zb true ((KHp a b 1++[AO.lst []]++[AO.lst []]).length+1) ((KHp a b 1++[AO.lst []]++[AO.lst []]).length+2)]++[.lst []]++[.lst []])=some (.none,KHp a b 2):=by
  have d:=Zk (ns:=ns) (n:=n) (nm:=14) (u:=9) (a:=true) (d:=14) (l:=15) (l':=16) (e:=3) (el:=4) (el':=5) (q:=.none) (ds:=dsK.take 2) (h:=KHp a b 1++[.lst []]++[.lst []]++[JD 14 Zb true ((KHp a b 1++[AO.lst []]++[AO.lst []]).length+1) ((KHp a b 1++[AO.lst []]++[AO.lst []]).length+2)]++[.lst []]++[.lst []]) hn (by kernel_rfl) (by kernel_rfl) (by kernel_rfl) (by kernel_rfl) (by kernel_rfl) (by kernel_rfl) (by kernel_rfl) (by kernel_rfl) (by kernel_rfl) (by kernel_rfl) (by kernel_rfl) (by kernel_rfl)
  refine Eq.trans ?_ (Eq.trans d ?_)
  ·rfl
  ·kernel_rfl
 unfold hdB
 walk_at "ss"
theorem hd2 (hn:2≤n):QN hdB (Qb ns n) ns (ρH (.loc 1) (.sym 12) (.sym 9)) (KHp a b 2)=some ((.nxt,ρH (.loc 1) (.sym 12) (.sym 9)),KHp a b 3):=by
 have g1:(KHp a b 2)[1]?=some (.ins 6 [(36,.loc 6)]):=rfl
 have c2:Qb ns n 44 [.loc 1,.loc (KHp a b 2++[AO.lst []]++[AO.lst []]).length] (KHp a b 2++[.lst []]++[.lst []]++[JD 12 Zb true ((KHp a b 2++[AO.lst []]++[AO.lst []]).length+1) ((KHp a b 2++[AO.lst []]++[AO.lst []]).length+2)]++[.lst []]++[.lst []])=some (.none,KHp a b 3):=by
  have d:=Zk (ns:=ns) (n:=n) (nm:=12) (u:=9) (a:=true) (d:=19) (l:=20) (l':=21) (e:=3) (el:=4) (el':=5) (q:=.none) (ds:=dsK.take 3) (h:=KHp a b 2++[.lst []]++[.lst []]++[JD 12 Zb true ((KHp a b 2++[AO.lst []]++[AO.lst []]).length+1) ((KHp a b 2++[AO.lst []]++[AO.lst []]).length+2)]++[.lst []]++[.lst []]) hn (by kernel_rfl) (by kernel_rfl) (by kernel_rfl) (by kernel_rfl) (by kernel_rfl) (by kernel_rfl) (by kernel_rfl) (by kernel_rfl) (by kernel_rfl) (by kernel_rfl) (by kernel_rfl) (by kernel_rfl)
  refine Eq.trans ?_ (Eq.trans d ?_)
  ·rfl
  ·kernel_rfl
 unfold hdB
 walk_at "ss"
theorem hd3 (hn:2≤n):QN hdB (Qb ns n) ns (ρH (.loc 1) (.sym 10) (.sym 12)) (KHp a b 3)=some ((.nxt,ρH (.loc 1) (.sym 10) (.sym 12)),KHp a b 4):=by
 have g1:(KHp a b 3)[1]?=some (.ins 6 [(36,.loc 6)]):=rfl
 have c2:Qb ns n 44 [.loc 1,.loc (KHp a b 3++[AO.lst []]++[AO.lst []]).length] (KHp a b 3++[.lst []]++[.lst []]++[JD 10 (.tup [.sym 0,.sym 12,.tup []]) false ((KHp a b 3++[AO.lst []]++[AO.lst []]).length+1) ((KHp a b 3++[AO.lst []]++[AO.lst []]).length+2)]++[.lst []]++[.lst []])=some (.none,KHp a b 4):=by
  have d:=Zk (ns:=ns) (n:=n) (nm:=10) (u:=12) (a:=false) (d:=24) (l:=25) (l':=26) (e:=19) (el:=20) (el':=21) (q:=(kOf 9)) (ds:=dsK.take 4) (h:=KHp a b 3++[.lst []]++[.lst []]++[JD 10 (.tup [.sym 0,.sym 12,.tup []]) false ((KHp a b 3++[AO.lst []]++[AO.lst []]).length+1) ((KHp a b 3++[AO.lst []]++[AO.lst []]).length+2)]++[.lst []]++[.lst []]) hn (by kernel_rfl) (by kernel_rfl) (by kernel_rfl) (by kernel_rfl) (by kernel_rfl) (by kernel_rfl) (by kernel_rfl) (by kernel_rfl) (by kernel_rfl) (by kernel_rfl) (by kernel_rfl) (by kernel_rfl)
  refine Eq.trans ?_ (Eq.trans d ?_)
  ·rfl
  ·kernel_rfl
 unfold hdB
 walk_at "ss"
theorem hd4 (hn:2≤n):QN hdB (Qb ns n) ns (ρH (.loc 1) (.sym 11) (.sym 12)) (KHp a b 4)=some ((.nxt,ρH (.loc 1) (.sym 11) (.sym 12)),KHp a b 5):=by
 have g1:(KHp a b 4)[1]?=some (.ins 6 [(36,.loc 6)]):=rfl
 have c2:Qb ns n 44 [.loc 1,.loc (KHp a b 4++[AO.lst []]++[AO.lst []]).length] (KHp a b 4++[.lst []]++[.lst []]++[JD 11 (.tup [.sym 0,.sym 12,.tup []]) false ((KHp a b 4++[AO.lst []]++[AO.lst []]).length+1) ((KHp a b 4++[AO.lst []]++[AO.lst []]).length+2)]++[.lst []]++[.lst []])=some (.none,KHp a b 5):=by
  have d:=Zk (ns:=ns) (n:=n) (nm:=11) (u:=12) (a:=false) (d:=29) (l:=30) (l':=31) (e:=19) (el:=20) (el':=21) (q:=(kOf 9)) (ds:=dsK.take 5) (h:=KHp a b 4++[.lst []]++[.lst []]++[JD 11 (.tup [.sym 0,.sym 12,.tup []]) false ((KHp a b 4++[AO.lst []]++[AO.lst []]).length+1) ((KHp a b 4++[AO.lst []]++[AO.lst []]).length+2)]++[.lst []]++[.lst []]) hn (by kernel_rfl) (by kernel_rfl) (by kernel_rfl) (by kernel_rfl) (by kernel_rfl) (by kernel_rfl) (by kernel_rfl) (by kernel_rfl) (by kernel_rfl) (by kernel_rfl) (by kernel_rfl) (by kernel_rfl)
  refine Eq.trans ?_ (Eq.trans d ?_)
  ·rfl
  ·kernel_rfl
 unfold hdB
 walk_at "ss"
end
end
section
section
variable {ns:List Int} {n:Nat} {hA h h':H} {gs:List Gm} {W:Nat} {us:List Gu} {p:Pl} {tb:Nat→Option (Nat×Nat)} {a b:Int} {x3 x4:PV}
def hdI:PV:=.tup [.tup [.sym 13,.sym 9],.tup [.sym 14,.sym 9],.tup [.sym 12,.sym 9],.tup [.sym 10,.sym 12],.tup [.sym 11,.sym 12]]
def hdL:List PV:=[.tup [.sym 13,.sym 9],.tup [.sym 14,.sym 9],.tup [.sym 12,.sym 9],.tup [.sym 10,.sym 12],.tup [.sym 11,.sym 12]]
theorem E8 (hn:2≤n):∃x3 x4,YF (.many [3,4]) (QN hdB) 64 (.tup hdL) 0 (Qb ns n) ns (ρH (.loc 1) .unb .unb) (KHp a b 0)=some ((.nxt,ρH (.loc 1) x3 x4),KHp a b 5):=by
 refine q0 ?_;intro Q;have H:=Q4 (t:=.many [3,4]) (body:=QN hdB) (src:=.tup hdL) (C:=Qb ns n) (ns:=ns) (K:=5) (items:=fun j=>hdL.getD j .unb)
  (fun k ρ h'=>(∃x3 x4,ρ=ρH (.loc 1) x3 x4)∧h'=KHp a b k)
  (fun v h'=>False)
  (by
   intro k ρ h' _
   simp only[Fb]
   split
   ·rename_i c
    rw[List.getD_eq_getElem?_getD,List.getElem?_eq_getElem (by exact c)]
    rfl
   ·rename_i c
    rw[List.getElem?_eq_none (by show 5≤k;exact o346 c)])
  (by
   rintro k ρ h' lt ⟨⟨x3,x4,rfl⟩,rfl⟩
   refine q1 k ?_;intro Q;rcases(show k=0∨k=1∨k=2∨k=3∨k=4 by exact o347 lt)with rfl|rfl|rfl|rfl|rfl
   ·exact⟨_,rfl,.nxt,_,_,hd0 hn,Or.inr ⟨Or.inl rfl,⟨_,_,rfl⟩,rfl⟩⟩
   ·exact⟨_,rfl,.nxt,_,_,hd1 hn,Or.inr ⟨Or.inl rfl,⟨_,_,rfl⟩,rfl⟩⟩
   ·exact⟨_,rfl,.nxt,_,_,hd2 hn,Or.inr ⟨Or.inl rfl,⟨_,_,rfl⟩,rfl⟩⟩
   ·exact⟨_,rfl,.nxt,_,_,hd3 hn,Or.inr ⟨Or.inl rfl,⟨_,_,rfl⟩,rfl⟩⟩
   ·exact⟨_,rfl,.nxt,_,_,hd4 hn,Or.inr ⟨Or.inl rfl,⟨_,_,rfl⟩,rfl⟩⟩)
  5 0 64 (ρH (.loc 1) .unb .unb) (KHp a b 0) (by exact o348) (by omega) ⟨⟨_,_,rfl⟩,rfl⟩
 obtain⟨fl,ρ',h',e,r⟩:=H
 rcases r with ⟨v,rfl,F⟩|⟨rfl,⟨x3,x4,rfl⟩,rfl⟩
 ·exact F.elim
 exact⟨x3,x4,e⟩
def hT (a b:Int):H:=KH a b++[.ins 9 [(4,.loc 1),(21,.loc 33),(50,.loc 34),(51,.int 1)],.dct [],.lst [],.lst []]
theorem C0:PuS (hT a b) [] 1 (fun Z=>none):=
 ⟨⟨⟨by show 32≤36;omega,a,b,rfl⟩,rfl,⟨⟨[],rfl,Nat.le_refl _,fun Z Z=>⟨rfl,rfl⟩⟩,fun Z Z Z e=>(by cases e),fun Z Z e=>(by cases e)⟩,rfl,fun g hg=>(by cases hg),fun i g e=>(by simp at e),by simp,fun g hg=>(by cases hg),List.Pairwise.nil⟩,
  ⟨rfl,fun g hg=>(by cases hg),fun i g e=>(by simp at e),by simp,fun g hg=>(by cases hg)⟩,fun g hg=>(by cases hg)⟩
theorem PuS.frm (P:PuS hA gs W tb)(J:Jar hA)(J':Jar h)(F:FrH (fun Z=>False) hA h):PuS h gs W tb:=by
 have K:KI h:=by
  obtain⟨a,b,ok,e⟩:=J'
  have S:Shk hA (hA.set 0 (Zf a b)):=⟨a,b,ok,rfl⟩
  have k32:=P.t.k.1
  refine(P.t.k.shk S).same fun k hk=>?_
  by_cases q:k=0
  ·subst q
   rw[List.getElem?_set_self (by omega)]
   exact e
  ·rw[List.getElem?_set_ne (Ne.symm q)]
   exact F.2 k (by omega) q id
 refine⟨P.t.keep K fun l o=>F.2 l (P.t.lt o) (P.t.ne0 o) id,P.m.keep (F.2 35 (Qc P.m.l) (by decide) id) fun g hg to=>?_,P.w⟩
 obtain⟨a,b,_,e⟩:=J
 exact F.2 _ (Qc (P.m.w g hg to)) (QY (P.m.w g hg to) e (DC (P.m.wf g hg).2.1)) id
theorem CS.of (P:PuS hA gs W tb)(J:Jar hA)(U:UB hA h us p W):CS h gs W tb us p:=by
 obtain⟨b1,b2,b3,b4,b5,b6⟩:=U.b
 have A36:36≤hA.length:=Qc P.m.l
 have ge:∀l,Wh us p l→hA.length≤l:=fun l o=>by
  rcases o with rfl|rfl|rfl|rfl|rfl|rfl|⟨u,hu,o⟩
  ·exact b1
  ·exact b2
  ·exact b3
  ·exact b4
  ·exact b5
  ·exact b6
  ·exact(U.g u hu l o).1
 refine⟨P.frm J U.j U.f,U.u,U.j,fun l o=>⟨fun q=>?_,?_⟩,U.n,fun u hu l hl=>(U.g u hu l hl).2,fun g hg to=>?_⟩
 ·have:=P.t.lt q
  have:=ge l o
  omega
 ·have:=ge l o
  omega
 ·have:=Qc (P.m.w g hg to)
  exact o36 this b6
theorem Sx (hn:24≤n):∃ρ' h',QN (Nd 76) (Qb ns n) ns (ρH .unb .unb .unb|>.set 1 .unb) []=some ((.ret (.bool true),ρ'),h'):=by
 refine q0 ?_;intro Q;obtain⟨a,b,ok,ej⟩:=A7 (n:=n) (by omega) ns
 have s1:sSet 1 (Qn 68 [(Qa 0)]) (Qb ns n) ns (ρH .unb .unb .unb|>.set 1 .unb) []=some ((.nxt,ρH .unb .unb .unb),[Zf a b]):=ZL (Wu (Yd (YM (p:=.scr) rfl rfl) JE) ej) rfl
 have s2:sSet 2 (Jl 6 []) (Qb ns n) ns (ρH .unb .unb .unb) [Zf a b]=some ((.nxt,ρH (.loc 1) .unb .unb),KHp a b 0):=ZL (Fy JE rfl (Ht (by omega))) rfl
 obtain⟨x3,x4,e3⟩:=E8 (ns:=ns) (n:=n) (a:=a) (b:=b) (by omega)
 have s4:sSetT [5,6] (QK [(Jl 9 [(Qa 2)]),(QE [])]) (Qb ns n) ns (ρH (.loc 1) x3 x4) (KHp a b 5)=some ((.nxt,ρA x3 x4 .unb),hT a b):=by
  have t:QK [(Jl 9 [(Qa 2)]),(QE [])] (Qb ns n) ns (ρH (.loc 1) x3 x4) (KHp a b 5)=some (.tup [.loc 32,.loc 35],hT a b):=by
   refine FV (Yd (Fy (Yd (YM (p:=.loc 1) rfl rfl) JE) rfl (NH (by omega))) (Yd (MC JE rfl) JE)) rfl
  exact Iv t rfl rfl
 have J0:Jar (hT a b):=⟨a,b,ok,rfl⟩
 obtain⟨x7,hA,gs,tb,e5,PA,JA,gl,lA⟩:=phA (ns:=ns) (n:=n) (x3:=x3) (x4:=x4) (by omega) J0 C0 (by show 36≤36;omega)
 obtain⟨p,h0,U0,run0⟩:=V4 (ns:=ns) (n:=n) (x3:=x3) (x4:=x4) (x7:=x7) (W:=gs.length+1) (by omega) JA
 obtain⟨y12,y13,y14,y15,hB,us,e8,UB'⟩:=phB (ns:=ns) (n:=n) (x3:=x3) (x4:=x4) (x7:=x7) (x12:=.unb) (x13:=.unb) (x14:=.unb) (x15:=.unb) (by omega) U0 PA.t.t
 obtain⟨z7,z12,z16,z17,z18,hC,gs',tb',us',e9,SC,gl'⟩:=phC (ns:=ns) (n:=n) (x3:=x3) (x4:=x4) (x7:=x7) (x12:=y12) (x13:=y13) (x14:=y14) (x15:=y15) (x16:=.unb) (x17:=.unb) (x18:=.unb) hn (CS.of PA JA UB') gl
 obtain⟨w12,w19,w20,w21,e10⟩:=phD (ns:=ns) (n:=n) (x3:=x3) (x4:=x4) (x7:=z7) (x12:=z12) (x13:=y13) (x14:=y14) (x15:=y15) (x16:=z16) (x17:=z17) (x18:=z18) (x19:=.unb) (x20:=.unb) (x21:=.unb) (by omega) SC.u SC.s.t.t (Nat.le_trans (Nat.succ_le_succ gl') (by decide))
 have e11:=EM (ns:=ns) (n:=n) (x3:=x3) (x4:=x4) (x7:=z7) (x12:=w12) (x13:=y13) (x14:=y14) (x15:=y15) (x16:=z16) (x17:=z17) (x18:=z18) (x19:=w19) (x20:=w20) (x21:=w21) (by omega) SC.u
 refine⟨ρD x3 x4 z7 p w12 y13 y14 y15 z16 z17 z18 w19 w20 w21,hC,?_⟩
 refine Qt s1 (Q2 (Qt s2 (Q2 (Qt (YG (Np (p:=hdI) ?_ HI) e3) (Q2 (Qt s4 (Q2 (Qt e5 (Q2 (run0 _ _ _ _ (Qt e8 (Q2 (Qt e9 (Q2 (Qt e10 (Q2 (Qt e11 BW)))))))))))))))))
 rfl
theorem LK:Di:=fun ns Z=>by
 obtain⟨ρ',h',e⟩:=Sx (ns:=ns) (n:=29) (by omega)
 refine⟨30,[],by omega,L_v (n:=30) (by omega) rfl (Qd Qbl e rfl) ⟨h',rfl⟩ rfl⟩
end
end
end Mine.Tactic
end
namespace Mine.main
open Lean in
local macro_rules (kind := Lean.Parser.Command.universe) | x => do
 let g (n : Name) : MacroM Syntax := `(def $(mkIdent (.mkSimple s!"tw{n.hash}")) := 0)
 let q (p:String) (i:Nat):=g ((`Mine.main).str s!"{p}_1_{i}")
 let a ←((List.range 1320).filter (Nat.testBit 0xefdef7bdefdfbf47fef7ef7bf7efdfbf77a3ff7efddff7efd47dfff7efdfbde8ffdfbf7efdfbf7efdefdde8fff7bdfbef47f7d1ffdef63ff7efdfbf7eef47fefdfbf77fd407efdfbf7efdefdfbf779ffbf7efdfbf7efdfbf7efdfbdfbf7eef47df7bfbf7dfbf7ea03bf7bdef7efdfbf7eef3ff7ef7ef7bdefdfbf7efdde8ffbdef7efdea3ffdfbf7efdfbf7ef7a3ffdfbf7efdde8efdfbdefdfbf7efeffea0d00000000000)).mapM (q "o")
 let b ←[50,132,186,262,312,410,486,555,689,767,823,882,909,927,972,1064,1119,1178,1259,1320].mapM (q "tree")
 let c ←[52,134,188,264,314,492,557,773,825,884,911,929,974,1066,1121,1180,1261].mapM (q "sts")
 let d ←[39,48,1324].mapM (q "heap")
 return (mkNullNode (a++b++c++d++[←q "view" 40,←q "env" 42,←g `PySem.Challenge.pw_pq0728_01,←g `PySem.Challenge.rw_pq0728_01]).toArray)
universe u
end Mine.main
end
open PySem.Str (ofString)
open PySem PySem.W PyProof.Rows PySem.Calls
set_option tactic.hygienic true in
set_option maxHeartbeats 0 in
set_option Elab.async true in
theorem Mine.main:PySem.Challenge.rw_pq0728_01.Holds:=by
 w_on
 o_law
 k_head
 (case hw=>w_witness2)
 intro w s₀ s₁ mg mb G Y fa o pm cd doc dV kV ho hd hcd hD hmg hg args vals as hpre hlay hrd hwl hlo
 have KX:=kIn_of Y
 refine Ground.open G ?_
 intro T B D TE TW
 wrow_args hpre hlay hrd hwl hlo
 rename_i ns _ _ _ _ _ _ _ _ _ _ hL _ _ _ hI _ hn _
 refine Mine.Tactic.R1 Mine.Tactic.LK (?_:Mine.Tactic.KOk w.params _) KX T.g T.b T.nolimit T.builtins (T.seer rfl) hg hmg hL hI (by omega)
 open Mine.Tactic in exact
  {fns:=by kernel_rfl
   bnd:=(Rf (Ry (Rv (S8 (Tq rfl rfl (fun x0 x1 S=>by kernel_rfl) (by kernel_rfl) (fun x0 S=>by kernel_rfl) (by kernel_rfl)) (bd1 rfl rfl (fun x0 S=>by kernel_rfl)) (bd2 rfl rfl (fun x0 x1 S=>by kernel_rfl)) (bd1 rfl rfl (fun x0 S=>by kernel_rfl)) (RD rfl rfl (fun x0 x1 x2 S=>by kernel_rfl) (by kernel_rfl) (fun x0 x1 S=>by kernel_rfl) (by kernel_rfl) (fun x0 S=>by kernel_rfl) (by kernel_rfl)) (bd2 rfl rfl (fun x0 x1 S=>by kernel_rfl)) (bd1 rfl rfl (fun x0 S=>by kernel_rfl)) (bd1 rfl rfl (fun x0 S=>by kernel_rfl)) (bd1 rfl rfl (fun x0 S=>by kernel_rfl)) (bd1 rfl rfl (fun x0 S=>by kernel_rfl)) (bd3 rfl rfl (fun x0 x1 x2 S=>by kernel_rfl)) (bd3 rfl rfl (fun x0 x1 x2 S=>by kernel_rfl)) (bd4 rfl rfl (fun x0 x1 x2 x3 S=>by kernel_rfl)) (bd3 rfl rfl (fun x0 x1 x2 S=>by kernel_rfl)) (bd4 rfl rfl (fun x0 x1 x2 x3 S=>by kernel_rfl)) (bd3 rfl rfl (fun x0 x1 x2 S=>by kernel_rfl)) (bd3 rfl rfl (fun x0 x1 x2 S=>by kernel_rfl)) (bd2 rfl rfl (fun x0 x1 S=>by kernel_rfl)) (bd2 rfl rfl (fun x0 x1 S=>by kernel_rfl)) (Hy rfl rfl (fun x0 x1 x2 x3 S=>by kernel_rfl) (by kernel_rfl) (fun x0 x1 x2 S=>by kernel_rfl) (by kernel_rfl))) (bd3 rfl rfl (fun x0 x1 x2 S=>by kernel_rfl)) (Hy rfl rfl (fun x0 x1 x2 x3 S=>by kernel_rfl) (by kernel_rfl) (fun x0 x1 x2 S=>by kernel_rfl) (by kernel_rfl)) (bd1 rfl rfl (fun x0 S=>by kernel_rfl)) (bd3 rfl rfl (fun x0 x1 x2 S=>by kernel_rfl)) (bd2 rfl rfl (fun x0 x1 S=>by kernel_rfl)) (bd3 rfl rfl (fun x0 x1 x2 S=>by kernel_rfl)) (bd4 rfl rfl (fun x0 x1 x2 x3 S=>by kernel_rfl)) (bd4 rfl rfl (fun x0 x1 x2 x3 S=>by kernel_rfl)) (bd4 rfl rfl (fun x0 x1 x2 x3 S=>by kernel_rfl)) (bd4 rfl rfl (fun x0 x1 x2 x3 S=>by kernel_rfl)) (bd3 rfl rfl (fun x0 x1 x2 S=>by kernel_rfl)) (bd2 rfl rfl (fun x0 x1 S=>by kernel_rfl)) (bd4 rfl rfl (fun x0 x1 x2 x3 S=>by kernel_rfl)) (bd3 rfl rfl (fun x0 x1 x2 S=>by kernel_rfl)) (bd2 rfl rfl (fun x0 x1 S=>by kernel_rfl)) (bd2 rfl rfl (fun x0 x1 S=>by kernel_rfl)) (bd3 rfl rfl (fun x0 x1 x2 S=>by kernel_rfl)) (bd2 rfl rfl (fun x0 x1 S=>by kernel_rfl)) (bd3 rfl rfl (fun x0 x1 x2 S=>by kernel_rfl)) (bd3 rfl rfl (fun x0 x1 x2 S=>by kernel_rfl))) (bd2 rfl rfl (fun x0 x1 S=>by kernel_rfl)) (Rh rfl rfl (fun x0 x1 x2 x3 x4 x5 x6 S=>by kernel_rfl) (by kernel_rfl) (fun x0 x1 x2 x3 x4 x5 S=>by kernel_rfl) (by kernel_rfl) (fun x0 x1 x2 x3 x4 S=>by kernel_rfl) (by kernel_rfl)) (bd2 rfl rfl (fun x0 x1 S=>by kernel_rfl)) (bd1 rfl rfl (fun x0 S=>by kernel_rfl)) (bd2 rfl rfl (fun x0 x1 S=>by kernel_rfl)) (bd2 rfl rfl (fun x0 x1 S=>by kernel_rfl)) (bd2 rfl rfl (fun x0 x1 S=>by kernel_rfl)) (bd2 rfl rfl (fun x0 x1 S=>by kernel_rfl)) (bd2 rfl rfl (fun x0 x1 S=>by kernel_rfl)) (Kt rfl rfl (fun x0 x1 x2 x3 x4 x5 x6 x7 x8 x9 S=>by kernel_rfl) (by kernel_rfl) (fun x0 x1 x2 x3 x4 x5 x6 x7 x8 S=>by kernel_rfl) (by kernel_rfl) (fun x0 x1 x2 x3 x4 x5 x6 x7 S=>by kernel_rfl) (by kernel_rfl)) (bd2 rfl rfl (fun x0 x1 S=>by kernel_rfl)) (bd2 rfl rfl (fun x0 x1 S=>by kernel_rfl)) (bd3 rfl rfl (fun x0 x1 x2 S=>by kernel_rfl)) (bd3 rfl rfl (fun x0 x1 x2 S=>by kernel_rfl)) (bd2 rfl rfl (fun x0 x1 S=>by kernel_rfl)) (bd2 rfl rfl (fun x0 x1 S=>by kernel_rfl)) (bd3 rfl rfl (fun x0 x1 x2 S=>by kernel_rfl)) (bd2 rfl rfl (fun x0 x1 S=>by kernel_rfl)) (bd2 rfl rfl (fun x0 x1 S=>by kernel_rfl)) (bd2 rfl rfl (fun x0 x1 S=>by kernel_rfl))) (bd2 rfl rfl (fun x0 x1 S=>by kernel_rfl)) (bd3 rfl rfl (fun x0 x1 x2 S=>by kernel_rfl)) (bd4 rfl rfl (fun x0 x1 x2 x3 S=>by kernel_rfl)) (bd4 rfl rfl (fun x0 x1 x2 x3 S=>by kernel_rfl)) (bd4 rfl rfl (fun x0 x1 x2 x3 S=>by kernel_rfl)) (bd4 rfl rfl (fun x0 x1 x2 x3 S=>by kernel_rfl)) (bd4 rfl rfl (fun x0 x1 x2 x3 S=>by kernel_rfl)) (bd4 rfl rfl (fun x0 x1 x2 x3 S=>by kernel_rfl)) (bd1 rfl rfl (fun x0 S=>by kernel_rfl)) (bd2 rfl rfl (fun x0 x1 S=>by kernel_rfl)) (bd2 rfl rfl (fun x0 x1 S=>by kernel_rfl)) (bd2 rfl rfl (fun x0 x1 S=>by kernel_rfl)) (bd2 rfl rfl (fun x0 x1 S=>by kernel_rfl)) (bd2 rfl rfl (fun x0 x1 S=>by kernel_rfl)) (bd3 rfl rfl (fun x0 x1 x2 S=>by kernel_rfl)) (bd4 rfl rfl (fun x0 x1 x2 x3 S=>by kernel_rfl)) (bd1 rfl rfl (fun x0 S=>by kernel_rfl)))
   fnN:=by kernel_rfl
   clN:=by kernel_rfl
   noN:=by kernel_rfl
   glN:=by kernel_rfl
   over:=⟨980,_,_,by kernel_rfl,rfl,⟨⟨_,_,rfl,rfl⟩,⟨_,_,rfl,rfl⟩,⟨_,_,rfl,rfl⟩,⟨_,_,rfl,rfl⟩,trivial⟩,by kernel_rfl⟩
   fk:=by kernel_rfl
   ck:=by kernel_rfl
   cr:=by kernel_rfl
   mm:=by kernel_rfl
   fl:=by kernel_rfl}
theorem PySem.Challenge.cw_pq0728_01_holds : PySem.Challenge.rw_pq0728_01.Holds :=
 Mine.main
