import PyProof.Rows.All
import KE.BitLaws
import KE.IntBitsLaws
import KE.KEqDict
import KE.KBytesCut
import KE.KDictSum
import KE.KSortTup
import KE.KDictOf
import KE.KxDecode
import Wide.Change
import Lean
import PySem.Challenge.RW_rh0220_01
set_option tactic.hygienic false
set_option genSizeOf false
set_option genInjectivity false
set_option bootstrap.genMatcherCode false
set_option compiler.extract_closed false
set_option autoImplicit false
set_option maxRecDepth 1000000
set_option Elab.async false
set_option linter.all false
open PySem PySem.W PyProof.Rows
namespace Mine
noncomputable section
set_option maxHeartbeats 0 in
theorem said:PySem.W.OpenLaw.wellSaid PySem.Challenge.rw_rh0220_01=true:=by
 rw[PySem.W.Fast.te9446332074065402090]
 delta PySem.W.Fast.tw9446332074065402090
 repeat' (with_reducible refine look_both ?_ ?_)
 all_goals try delta PySem.W.Fast.tw17960256430627541270 PySem.W.Fast.tw2436336058641802641
 repeat' (with_reducible refine look_both ?_ ?_)
 all_goals try delta PySem.W.Fast.tw12908688711261696721
 repeat' (with_reducible refine look_both ?_ ?_)
 all_goals (decide +kernel)
@[elab_as_elim] theorem rwl {α:Type} {P:α->Prop} {a b:α} (h:a=b) (k:P b):P a:=h▸k
theorem X0_3 {A0 A1 A2:Prop} {P:Prop} (h:A0∧A1∧A2) (k:A0->A1->A2->P):P:=by
 obtain ⟨x0,x1,x2⟩:=h
 exact k x0 x1 x2
theorem X1_2 {T0:Type} {A0 A1:T0->Prop} {P:Prop} (h:∃a0,A0 a0∧A1 a0) (k:∀a0,A0 a0->A1 a0->P):P:=by
 obtain ⟨a0,x0,x1⟩:=h
 exact k a0 x0 x1
theorem X2_1 {T0 T1:Type} {A0:T0->T1->Prop} {P:Prop} (h:∃a0 a1,A0 a0 a1) (k:∀a0 a1,A0 a0 a1->P):P:=by
 obtain ⟨a0,a1,x0⟩:=h
 exact k a0 a1 x0
theorem X0_4 {A0 A1 A2 A3:Prop} {P:Prop} (h:A0∧A1∧A2∧A3) (k:A0->A1->A2->A3->P):P:=by
 obtain ⟨x0,x1,x2,x3⟩:=h
 exact k x0 x1 x2 x3
theorem X1_3 {T0:Type} {A0 A1 A2:T0->Prop} {P:Prop} (h:∃a0,A0 a0∧A1 a0∧A2 a0) (k:∀a0,A0 a0->A1 a0->A2 a0->P):P:=by
 obtain ⟨a0,x0,x1,x2⟩:=h
 exact k a0 x0 x1 x2
theorem X2_2 {T0 T1:Type} {A0 A1:T0->T1->Prop} {P:Prop} (h:∃a0 a1,A0 a0 a1∧A1 a0 a1) (k:∀a0 a1,A0 a0 a1->A1 a0 a1->P):P:=by
 obtain ⟨a0,a1,x0,x1⟩:=h
 exact k a0 a1 x0 x1
theorem X3_1 {T0 T1 T2:Type} {A0:T0->T1->T2->Prop} {P:Prop} (h:∃a0 a1 a2,A0 a0 a1 a2) (k:∀a0 a1 a2,A0 a0 a1 a2->P):P:=by
 obtain ⟨a0,a1,a2,x0⟩:=h
 exact k a0 a1 a2 x0
theorem X0_5 {A0 A1 A2 A3 A4:Prop} {P:Prop} (h:A0∧A1∧A2∧A3∧A4) (k:A0->A1->A2->A3->A4->P):P:=by
 obtain ⟨x0,x1,x2,x3,x4⟩:=h
 exact k x0 x1 x2 x3 x4
theorem X1_4 {T0:Type} {A0 A1 A2 A3:T0->Prop} {P:Prop} (h:∃a0,A0 a0∧A1 a0∧A2 a0∧A3 a0) (k:∀a0,A0 a0->A1 a0->A2 a0->A3 a0->P):P:=by
 obtain ⟨a0,x0,x1,x2,x3⟩:=h
 exact k a0 x0 x1 x2 x3
theorem X2_3 {T0 T1:Type} {A0 A1 A2:T0->T1->Prop} {P:Prop} (h:∃a0 a1,A0 a0 a1∧A1 a0 a1∧A2 a0 a1) (k:∀a0 a1,A0 a0 a1->A1 a0 a1->A2 a0 a1->P):P:=by
 obtain ⟨a0,a1,x0,x1,x2⟩:=h
 exact k a0 a1 x0 x1 x2
theorem X3_2 {T0 T1 T2:Type} {A0 A1:T0->T1->T2->Prop} {P:Prop} (h:∃a0 a1 a2,A0 a0 a1 a2∧A1 a0 a1 a2) (k:∀a0 a1 a2,A0 a0 a1 a2->A1 a0 a1 a2->P):P:=by
 obtain ⟨a0,a1,a2,x0,x1⟩:=h
 exact k a0 a1 a2 x0 x1
theorem X0_6 {A0 A1 A2 A3 A4 A5:Prop} {P:Prop} (h:A0∧A1∧A2∧A3∧A4∧A5) (k:A0->A1->A2->A3->A4->A5->P):P:=by
 obtain ⟨x0,x1,x2,x3,x4,x5⟩:=h
 exact k x0 x1 x2 x3 x4 x5
theorem X1_5 {T0:Type} {A0 A1 A2 A3 A4:T0->Prop} {P:Prop} (h:∃a0,A0 a0∧A1 a0∧A2 a0∧A3 a0∧A4 a0) (k:∀a0,A0 a0->A1 a0->A2 a0->A3 a0->A4 a0->P):P:=by
 obtain ⟨a0,x0,x1,x2,x3,x4⟩:=h
 exact k a0 x0 x1 x2 x3 x4
theorem X2_4 {T0 T1:Type} {A0 A1 A2 A3:T0->T1->Prop} {P:Prop} (h:∃a0 a1,A0 a0 a1∧A1 a0 a1∧A2 a0 a1∧A3 a0 a1) (k:∀a0 a1,A0 a0 a1->A1 a0 a1->A2 a0 a1->A3 a0 a1->P):P:=by
 obtain ⟨a0,a1,x0,x1,x2,x3⟩:=h
 exact k a0 a1 x0 x1 x2 x3
theorem X3_3 {T0 T1 T2:Type} {A0 A1 A2:T0->T1->T2->Prop} {P:Prop} (h:∃a0 a1 a2,A0 a0 a1 a2∧A1 a0 a1 a2∧A2 a0 a1 a2) (k:∀a0 a1 a2,A0 a0 a1 a2->A1 a0 a1 a2->A2 a0 a1 a2->P):P:=by
 obtain ⟨a0,a1,a2,x0,x1,x2⟩:=h
 exact k a0 a1 a2 x0 x1 x2
theorem X4_2 {T0 T1 T2 T3:Type} {A0 A1:T0->T1->T2->T3->Prop} {P:Prop} (h:∃a0 a1 a2 a3,A0 a0 a1 a2 a3∧A1 a0 a1 a2 a3) (k:∀a0 a1 a2 a3,A0 a0 a1 a2 a3->A1 a0 a1 a2 a3->P):P:=by
 obtain ⟨a0,a1,a2,a3,x0,x1⟩:=h
 exact k a0 a1 a2 a3 x0 x1
theorem X0_7 {A0 A1 A2 A3 A4 A5 A6:Prop} {P:Prop} (h:A0∧A1∧A2∧A3∧A4∧A5∧A6) (k:A0->A1->A2->A3->A4->A5->A6->P):P:=by
 obtain ⟨x0,x1,x2,x3,x4,x5,x6⟩:=h
 exact k x0 x1 x2 x3 x4 x5 x6
theorem X2_5 {T0 T1:Type} {A0 A1 A2 A3 A4:T0->T1->Prop} {P:Prop} (h:∃a0 a1,A0 a0 a1∧A1 a0 a1∧A2 a0 a1∧A3 a0 a1∧A4 a0 a1) (k:∀a0 a1,A0 a0 a1->A1 a0 a1->A2 a0 a1->A3 a0 a1->A4 a0 a1->P):P:=by
 obtain ⟨a0,a1,x0,x1,x2,x3,x4⟩:=h
 exact k a0 a1 x0 x1 x2 x3 x4
theorem X3_4 {T0 T1 T2:Type} {A0 A1 A2 A3:T0->T1->T2->Prop} {P:Prop} (h:∃a0 a1 a2,A0 a0 a1 a2∧A1 a0 a1 a2∧A2 a0 a1 a2∧A3 a0 a1 a2) (k:∀a0 a1 a2,A0 a0 a1 a2->A1 a0 a1 a2->A2 a0 a1 a2->A3 a0 a1 a2->P):P:=by
 obtain ⟨a0,a1,a2,x0,x1,x2,x3⟩:=h
 exact k a0 a1 a2 x0 x1 x2 x3
theorem X4_3 {T0 T1 T2 T3:Type} {A0 A1 A2:T0->T1->T2->T3->Prop} {P:Prop} (h:∃a0 a1 a2 a3,A0 a0 a1 a2 a3∧A1 a0 a1 a2 a3∧A2 a0 a1 a2 a3) (k:∀a0 a1 a2 a3,A0 a0 a1 a2 a3->A1 a0 a1 a2 a3->A2 a0 a1 a2 a3->P):P:=by
 obtain ⟨a0,a1,a2,a3,x0,x1,x2⟩:=h
 exact k a0 a1 a2 a3 x0 x1 x2
theorem X0_8 {A0 A1 A2 A3 A4 A5 A6 A7:Prop} {P:Prop} (h:A0∧A1∧A2∧A3∧A4∧A5∧A6∧A7) (k:A0->A1->A2->A3->A4->A5->A6->A7->P):P:=by
 obtain ⟨x0,x1,x2,x3,x4,x5,x6,x7⟩:=h
 exact k x0 x1 x2 x3 x4 x5 x6 x7
theorem X1_7 {T0:Type} {A0 A1 A2 A3 A4 A5 A6:T0->Prop} {P:Prop} (h:∃a0,A0 a0∧A1 a0∧A2 a0∧A3 a0∧A4 a0∧A5 a0∧A6 a0) (k:∀a0,A0 a0->A1 a0->A2 a0->A3 a0->A4 a0->A5 a0->A6 a0->P):P:=by
 obtain ⟨a0,x0,x1,x2,x3,x4,x5,x6⟩:=h
 exact k a0 x0 x1 x2 x3 x4 x5 x6
theorem X2_6 {T0 T1:Type} {A0 A1 A2 A3 A4 A5:T0->T1->Prop} {P:Prop} (h:∃a0 a1,A0 a0 a1∧A1 a0 a1∧A2 a0 a1∧A3 a0 a1∧A4 a0 a1∧A5 a0 a1) (k:∀a0 a1,A0 a0 a1->A1 a0 a1->A2 a0 a1->A3 a0 a1->A4 a0 a1->A5 a0 a1->P):P:=by
 obtain ⟨a0,a1,x0,x1,x2,x3,x4,x5⟩:=h
 exact k a0 a1 x0 x1 x2 x3 x4 x5
theorem X3_5 {T0 T1 T2:Type} {A0 A1 A2 A3 A4:T0->T1->T2->Prop} {P:Prop} (h:∃a0 a1 a2,A0 a0 a1 a2∧A1 a0 a1 a2∧A2 a0 a1 a2∧A3 a0 a1 a2∧A4 a0 a1 a2) (k:∀a0 a1 a2,A0 a0 a1 a2->A1 a0 a1 a2->A2 a0 a1 a2->A3 a0 a1 a2->A4 a0 a1 a2->P):P:=by
 obtain ⟨a0,a1,a2,x0,x1,x2,x3,x4⟩:=h
 exact k a0 a1 a2 x0 x1 x2 x3 x4
theorem X4_4 {T0 T1 T2 T3:Type} {A0 A1 A2 A3:T0->T1->T2->T3->Prop} {P:Prop} (h:∃a0 a1 a2 a3,A0 a0 a1 a2 a3∧A1 a0 a1 a2 a3∧A2 a0 a1 a2 a3∧A3 a0 a1 a2 a3) (k:∀a0 a1 a2 a3,A0 a0 a1 a2 a3->A1 a0 a1 a2 a3->A2 a0 a1 a2 a3->A3 a0 a1 a2 a3->P):P:=by
 obtain ⟨a0,a1,a2,a3,x0,x1,x2,x3⟩:=h
 exact k a0 a1 a2 a3 x0 x1 x2 x3
theorem X5_3 {T0 T1 T2 T3 T4:Type} {A0 A1 A2:T0->T1->T2->T3->T4->Prop} {P:Prop} (h:∃a0 a1 a2 a3 a4,A0 a0 a1 a2 a3 a4∧A1 a0 a1 a2 a3 a4∧A2 a0 a1 a2 a3 a4) (k:∀a0 a1 a2 a3 a4,A0 a0 a1 a2 a3 a4->A1 a0 a1 a2 a3 a4->A2 a0 a1 a2 a3 a4->P):P:=by
 obtain ⟨a0,a1,a2,a3,a4,x0,x1,x2⟩:=h
 exact k a0 a1 a2 a3 a4 x0 x1 x2
theorem X6_2 {T0 T1 T2 T3 T4 T5:Type} {A0 A1:T0->T1->T2->T3->T4->T5->Prop} {P:Prop} (h:∃a0 a1 a2 a3 a4 a5,A0 a0 a1 a2 a3 a4 a5∧A1 a0 a1 a2 a3 a4 a5) (k:∀a0 a1 a2 a3 a4 a5,A0 a0 a1 a2 a3 a4 a5->A1 a0 a1 a2 a3 a4 a5->P):P:=by
 obtain ⟨a0,a1,a2,a3,a4,a5,x0,x1⟩:=h
 exact k a0 a1 a2 a3 a4 a5 x0 x1
section
open Lean
def idn (n : Name) : Syntax:=mkIdent n
def nd (k : String) (l : List Syntax) : Syntax:=.node .none (if k=="null"||k=="group" then .mkSimple k else if k.startsWith "-" then `Lean.Parser.Term++.mkSimple ((k.drop 1).toString) else `Lean.Parser.Tactic++.mkSimple k) l.toArray
def tsq (l : List Syntax) : Syntax:=nd "tacticSeq" [nd "tacticSeq1Indented" [nd "null" (l.intersperse (.atom .none ";"))]]
def tpn (l : List Syntax) : Syntax:=nd "paren" [.atom .none "(",tsq l,.atom .none ")"]
def tfs (l : List Syntax) : Syntax:=nd "first" [.atom .none "first",nd "null" (l.map fun t=>nd "group" [.atom .none "|",tsq [t]])]
def bld (g : List Syntax) (s : String) : Syntax :=
 ((s.splitOn " ").foldl (fun (st : List Syntax) t =>
 let c:=t.front
 let r:=(t.drop 1).toString
 let n:=c.toNat - 97
 if c=='\'' then .atom .none r::st else if c=='%' then idn r.toName::st else if c=='$' then g[r.toNat!]!::st
 else if c=='P' then tpn (st.take r.toNat!).reverse::st.drop r.toNat! else if c=='F' then tfs (st.take r.toNat!).reverse::st.drop r.toNat!
 else nd r (st.take n).reverse::st.drop n) []).head!
def casM (s : Syntax) : MacroM Syntax :=
 let e:=s[1][0]
 let h:=e[1]
 if s[1].getNumArgs != 1||e[0].getNumArgs != 0||!h.isIdent||s[2].getNumArgs != 0 then Macro.throwUnsupported else
 let w:=s[3]
 let a:=w[0][2][0]
 let l:=a[0][0]
 let no:=w.getNumArgs==0
 let u:=bld [] (if no then "'skip bskip" else "'fail anull cfail")
 let t:=if no then bld [] "'intros anull cintros" else if w[0][2].getNumArgs==1&&l[1].getKind==`group then if l[2].getNumArgs==0 then nd "paren" [.atom .none "(",a[1][1],.atom .none ")"] else tpn [bld [l[2]] "'refine 'fun $0 anull '=> '? '_ c-syntheticHole e-basicFun c-fun crefine",nd "paren" [.atom .none "(",a[1][1],.atom .none ")"]] else bld [] "'fail anull cfail"
 let g:=[h,w,u,t,idn (h.getId++`inv)]
 return tfs (bld g "'refine $4 '? '_ c-syntheticHole bnull c-app crefine 'clear $0 bnull cclear 'intro %i9 %e9 cnull cintro 'subst %e9 bnull csubst P2 'intro %i9 %j9 %e9 dnull cintro 'subst %e9 bnull csubst P2 'intro %i9 %j9 %k9 %e9 enull cintro 'subst %e9 bnull csubst P2 F3 $3 P4"
 ::(["Conc","Rd","AV","CD","Bool","List","Option","Value","AObj","Expr","Stmt","It","P"].map fun n=>bld [h,w,idn (.str (.mkSimple n) "casesOn")] "'induction anull $0 celimTarget bnull 'using $2 cnull anull $1 finduction")
 ++[bld g "'subst $0 bnull csubst $2 P2",bld g "'injection $0 anull dinjection 'done bdone P2",bld g "'have anull b-letConfig %e9 b-letId anull anull ':= %Option.some.inj $0 bnull c-app f-letIdDecl b-letDecl dtacticHave__ 'clear $0 bnull cclear 'subst %e9 bnull csubst $2 P4",bld g "'cases anull '( % bhygieneInfo c-hygienicLParen $0 ') d-paren celimTarget bnull anull $1 ecases"])
def obtM (s : Syntax) : MacroM Syntax :=
 let p:=s[1][0][0][0]
 let e:=s[3][1][0]
 let qs:=p[1].getSepArgs.toList
 let ok:=s[1][0][0].getNumArgs==1&&p.getKind==`Lean.Parser.Tactic.rcasesPat.tuple&&s[2].getNumArgs==0&&s[3][1].getNumArgs==1&&decide (3 ≤ qs.length)
 let tup (l : List Syntax):=nd "null" [nd "rcasesPatMed" [nd "null" [.node .none `Lean.Parser.Tactic.rcasesPat.tuple #[.atom .none "⟨",nd "null" (l.intersperse (.atom .none ",")),.atom .none "⟩"]]]]
 let lo:=fun (x : String)=>nd "rcasesPatLo" [nd "rcasesPatMed" [nd "null" [.node .none `Lean.Parser.Tactic.rcasesPat.one #[idn (.mkSimple x)]]],nd "null" []]
 if !ok then Macro.throwUnsupported else
 if 8 < qs.length then return bld [tup (qs.take 7++[lo "h9"]),tup (qs.drop 7),e,idn `h9] "'obtain $0 anull ':= $2 bnull cnull eobtain 'obtain $1 anull ':= $3 bnull cnull eobtain P2" else
 let bad:=qs.any fun q=>q[0][0].getNumArgs != 1||q[1].getNumArgs != 0||!(q[0][0][0].getKind==`Lean.Parser.Tactic.rcasesPat.ignore||q[0][0][0].getKind==`Lean.Parser.Tactic.rcasesPat.one)
 if bad then Macro.throwUnsupported else
 let (xs,ss):=qs.foldl (fun (xs,ss) q=>let x:=q[0][0][0]
 if x.getKind==`Lean.Parser.Tactic.rcasesPat.ignore then (xs++[idn `u9],ss) else if x[0].getId==`rfl then let i:=idn (.mkSimple s!"e9{ss.length}"); (xs++[i],ss++[i]) else (xs++[x[0]],ss)) (([],[]) : List Syntax × List Syntax)
 let as:=e[1].getArgs.toList
 let n:=match e[0].getId with | .str _ f=>f.endsWith "_true" | _=>false
 let c:=if e.isIdent then [bld [e] "'clear $0 bnull cclear"] else if e.getKind==`Lean.Parser.Term.app&&e[0].isIdent then (as.filter fun a=>a.isIdent&&(xs.any (fun x=>x.getId==a.getId)||n&&a==as.getLast!)).map fun a=>nd "tacticTry_" [.atom .none "try",tsq [bld [a] "'clear $0 bnull cclear"]] else []
 let m:=qs.length
 return tfs (((List.range (min m 7)).map fun n=>tpn (bld [idn (.mkSimple s!"X{n}_{m - n}"),e] "'refine $0 $1 '? '_ c-syntheticHole cnull c-app crefine"::c++[nd "intro" [.atom .none "intro",nd "null" xs]]++ss.map fun s=>bld [s] "'subst $0 bnull csubst"))++[bld [e,p] "'rcases anull $0 celimTarget bnull 'with $1 bnull brcasesPatMed anull crcasesPatLo cnull drcases"])
def rwM (s : Syntax) : MacroM Syntax :=
 let l:=s[2][1].getSepArgs.toList
 let h:=l.head!
 if s[1][0].getNumArgs != 0||s[3].getNumArgs != 0||h[0].getNumArgs != 0 then Macro.throwUnsupported else
 let r:=bld [h[1]] "'refine %rwl $0 '? '_ c-syntheticHole cnull c-app crefine"
 let w:=bld [h] "'rewrite anull boptConfig '[ $0 bnull '] drwRuleSeq anull erewriteSeq"
 let y:=nd "tacticTry_" [.atom .none "try",tsq [nd "withReducible" [.atom .none "with_reducible",tsq [bld [] "'rfl btacticRfl"]]]]
 return if l.length==1 then tfs [tpn [r,y],tpn [w,y]] else tpn [tfs [r,w],bld [nd "null" ((l.drop 1).intersperse (.atom .none ","))] "'rw anull boptConfig '[ $0 '] drwRuleSeq anull erwSeq"]
end
local macro_rules (kind := Lean.Parser.Tactic.cases)
 | s => casM s
local macro_rules (kind := Lean.Parser.Tactic.obtain)
 | s => obtM s
local macro_rules (kind := Lean.Parser.Tactic.rwSeq)
 | s => rwM s
local macro_rules (kind := Lean.Parser.Tactic.omega)
 | s => if s[1][0].getNumArgs != 0 then Lean.Macro.throwUnsupported else return tfs [bld [] "'lia anull boptConfig clia", bld [] "'omega '+ %splitDisjunctions cposConfigItem bconfigItem bnull boptConfig comega"]
noncomputable abbrev pw:Program:=PySem.Challenge.pw_rh0220_01
noncomputable abbrev vi (i:Int) (t:Tok):Value:=.int i t
noncomputable abbrev vs (x:Str) (t:Tok):Value:=.str x t
noncomputable abbrev vr (a:Addr):Value:=.ref a
noncomputable abbrev de (x:Str) (t:Tok) (v:Value):Str×Tok×Value:=(x,t,v)
noncomputable def fdS (s:Stmt):Option (Arguments×List Stmt×Scope):=by
 apply Stmt.casesOn (motive_2:=λU=>_) s<;>intros<;>first|exact some (args,body,scope)|exact none
noncomputable def clS (s:Stmt):List Stmt:=by
 apply Stmt.casesOn (motive_2:=λU=>_) s<;>intros<;>first|exact (λU=>body) static_attributes|exact []
noncomputable def allF (l:List Stmt):List (Arguments×List Stmt×Scope):=l.flatMap λs=>(fdS s).toList++(clS s).filterMap fdS
noncomputable def fnA (i:Nat):Arguments×List Stmt×Scope:=((allF pw.main.body)[i]?).getD default
noncomputable def fo (i:Nat) (nm q:Str) (c:Addr) (df doc mv:Value):Obj:=⟨.type "function",none,.func {name:=nm,qualname:=q,params:=(fnA i).1,body:=.stmts (fnA i).2.1,scope:=(fnA i).2.2,globals:=3,closure:=[],defaults:=df,kwdefaults:=.none,doc:=doc,pyModule:=mv,annotations:=none,code:=.ref c,closureTuple:=.none,builtins:=0},#[]⟩
noncomputable def co (vs:List Value):Obj:=⟨.type "code",none,.fields vs.toArray,#[]⟩
noncomputable def to (vs:List Value) (n:Nat):Obj:=⟨.type "tuple",none,.seq vs.toArray n,#[]⟩
noncomputable def dd (P:Params) (es:List (Str×Tok×Value)) (n:Nat):Obj:=⟨.type "dict",none,.dict (es.map λe=>⟨PyData.keyHash P e.1,.str e.1 e.2.1,e.2.2⟩).toArray n,#[]⟩
noncomputable def mainL:List (Str×Tok×Value):=[de "__name__" 165 (vs "law_rh0220_01" 2610),de "__doc__" 166 .none,de "__package__" 167 .none,de "__loader__" 168 (.builtin "__main__.__loader__#opaque"),de "__spec__" 169 .none,de "__annotations__" 170 (vr 6),de "__builtins__" 171 (vr 4),de "__file__" 173 (vs "/claim/cut.py" 172),de "__cached__" 174 .none,de "_wall" 193 (vr 21),de "mask_of" 203 (vr 28),de "is_prefix" 212 (vr 35),de "prefix_at" 221 (vr 42),de "holds_address" 230 (vr 49),de "covers" 239 (vr 56),de "FIRST_SEQ" 244 (vi (-2147483647) 243),de "LAST_SEQ" 246 (vi 2147483647 245),de "MAX_AGE" 248 (vi 3600 247),de "MAX_AGE_DIFF" 250 (vi 900 249),de "REFRESH" 252 (vi 1800 251),de "MIN_INTERVAL" 254 (vi 5 253),de "seq_octets_number" 261 (vr 63),de "newer_of" 271 (vr 71),de "aged_head" 280 (vr 79),de "key_of" 287 (vr 86),de "POINT_graph" 294 (vi 1 290),de "TRANSIT_graph" 295 (vi 2 291),de "STUB_graph" 296 (vi 3 292),de "VIRTUAL" 297 (vi 4 293),de "NET" 300 (vi 0 298),de "ROUTER" 301 (vi 1 299),de "area_vertices" 318 (vr 101),de "links_of" 324 (vr 106),de "data_to" 330 (vr 111),de "graph_edges" 336 (vr 116),de "length_of" 347 (vr 123),de "put_best" 353 (vr 128),de "stub_links" 367 (vr 135),de "area_nets" 386 (vr 142),de "area_routers" 397 (vr 149),de "LS_INFINITY" 401 (vi 16777215 400),de "BORDER" 403 (vi 1 402),de "SUMMARY_NET" 406 (vi 3 404),de "SUMMARY_ROUTER" 407 (vi 4 405),de "counting_rows" 425 (vr 160),de "inter_nets" 441 (vr 167),de "inter_routers" 454 (vr 174),de "SORTS" 461 (vr 175),de "route_worth" 474 (vr 182),de "merged_routes" 480 (vr 187),de "take_route" 489 (vr 194),de "routes_of" 495 (vr 199),de "table_of" 504 (vr 206),de "looked_up" 515 (vr 213),de "EXTERNAL_externals" 519 (vi 5 518),de "BACKBONE" 521 (vi 0 520),de "LEADS_OUT" 523 (vi 2 522),de "rank_of" 531 (vr 220),de "preferred_way" 541 (vr 227),de "way_out" 547 (vr 232),de "external_worth" 555 (vr 239),de "external_routes" 561 (vr 244),de "route_told" 571 (vr 251),de "ways_out" 586 (vr 258),de "range_of" 599 (vr 265),de "active_ranges" 611 (vr 272),de "dropped_ranges" 617 (vr 277),de "condensed_nets" 629 (vr 284),de "nets_for" 646 (vr 291),de "routers_for" 660 (vr 298),de "id_for" 666 (vr 303),de "numbered_nets" 672 (vr 308),de "summaries_for" 690 (vr 315),de "CHOSEN" 696 (vr 316),de "SHARED" 699 (vr 317),de "is_shared" 706 (vr 324),de "on_up" 714 (vr 331),de "on_choice" 723 (vr 338),de "next_state" 732 (vr 708),de "next_state_istate" 733 (vr 345),de "sends_hellos" 740 (vr 352),de "ROUTER_KIND" 744 (vi 1 743),de "NETWORK_KIND" 746 (vi 2 745),de "POINT_origin" 748 (vi 1 747),de "TRANSIT_origin" 750 (vi 2 749),de "STUB_origin" 752 (vi 3 751),de "FLAG_BORDER" 754 (vi 1 753),de "FLAG_EXTERNAL" 756 (vi 2 755),de "stub_link" 765 (vr 359),de "full_routers" 771 (vr 364),de "is_joined" 777 (vr 369),de "iface_links" 783 (vr 374),de "router_body" 789 (vr 379),de "network_body" 797 (vr 386),de "wishes_of" 811 (vr 393),de "Told" 845 (vr 410),de "Origin" 992 (vr 513),de "RouteError" 1023 (vr 534),de "ConfigError" 1039 (vr 547),de "aged" 1049 (vr 556),de "is_changed" 1057 (vr 563),de "Database" 1187 (vr 659),de "STATES" 1198 (vr 664),de "BEGIN" 1200 (vr 665),de "ENDED" 1203 (vr 666),de "is_at_least" 1211 (vr 673),de "on_hello" 1219 (vr 680),de "on_two_way" 1227 (vr 687),de "on_adjacent" 1235 (vr 694),de "on_exchange_event" 1244 (vr 701),de "next_state_nstate" 1254 (vr 708),de "is_both_ways" 1261 (vr 715),de "changes_interface" 1269 (vr 722),de "is_exchanging" 1276 (vr 729),de "is_told" 1283 (vr 736),de "EXTERNAL_receive" 1285 (vi 5 1284),de "is_reached" 1296 (vr 743),de "met_request" 1306 (vr 750),de "owe_all" 1317 (vr 757),de "goes_back" 1325 (vr 764),de "flooded" 1339 (vr 771),de "group_of" 1346 (vr 778),de "sent" 1354 (vr 785),de "forget_owed" 1364 (vr 792),de "MODULUS" 1368 (vi 255 1367),de "fletcher_pair" 1378 (vr 799),de "fletcher_sum" 1390 (vr 806),de "internet_sum" 1400 (vr 813),de "put_number" 1408 (vr 818),de "put_u8" 1415 (vr 825),de "put_u16" 1422 (vr 832),de "put_u24" 1429 (vr 839),de "put_u32" 1436 (vr 846),de "BITS" 1440 (vi 32 1439),de "HEAD_SIZE" 1442 (vi 20 1441),de "SUM_PLACE" 1444 (vi 14 1443),de "AGE_SIZE" 1446 (vi 2 1445),de "TYPE_TWO" 1448 (vi 128 1447),de "put_link" 1459 (vr 853),de "put_body" 1465 (vr 858),de "put_head" 1482 (vr 865),de "total_of" 1490 (vr 872),de "summed" 1497 (vr 879),de "put_lsa" 1506 (vr 886),de "VERSION" 1510 (vi 2 1509),de "PACKET_HEAD" 1512 (vi 24 1511),de "SUM_AT" 1514 (vi 12 1513),de "AUTH_AT" 1516 (vi 16 1515),de "AUTH_SIZE" 1518 (vi 8 1517),de "AUTH_NONE" 1520 (vi 0 1519),de "AUTH_PLAIN" 1522 (vi 1 1521),de "WORDS" 1528 (vr 887),de "put_heads" 1534 (vr 892),de "put_hello" 1540 (vr 897),de "put_payload" 1546 (vr 902),de "auth_octets" 1554 (vr 909),de "packet_sum" 1561 (vr 916),de "put_packet" 1577 (vr 923),de "packet_of" 1586 (vr 930),de "says_designated" 1595 (vr 937),de "says_backup" 1602 (vr 944),de "can_be_chosen" 1608 (vr 949),de "best_row" 1617 (vr 956),de "address_of" 1624 (vr 963),de "chosen_backup" 1630 (vr 968),de "chosen_designated" 1636 (vr 973),de "one_round" 1645 (vr 980),de "with_said" 1653 (vr 987),de "is_turned" 1661 (vr 994),de "elect" 1670 (vr 1001),de "role_of" 1678 (vr 1008),de "E_BIT" 1682 (vi 2 1681),de "hello_of" 1691 (vr 1015),de "adjacent_wanted" 1702 (vr 1022),de "SEND_DELAY" 1706 (vi 1 1705),de "MOST_NAMED" 1708 (vi 16367 1707),de "new_iface" 1717 (vr 1029),de "hello_view" 1725 (vr 1036),de "own_hello" 1731 (vr 1042),de "is_wanted" 1740 (vr 1049),de "choice_of" 1751 (vr 1056),de "router_at" 1760 (vr 1063),de "take_choice" 1768 (vr 1070),de "iface_event" 1782 (vr 1077),de "WIRE" 1786 (vi 32 1785),de "MTU" 1788 (vi 1500 1787),de "PORTION" 1790 (vi 3 1789),de "OPTIONS" 1792 (vi 2 1791),de "OUTSIDE" 1795 (vi (-1) 1794),de "FOUR_OCTETS" 1801 (vi 4294967295 1800),de "THREE_OCTETS" 1807 (vi 16777215 1806),de "BOUNDS" 1828 (vr 1086),de "KINDS" 1833 (vr 1087),de "need_room" 1843 (vr 1094),de "checked_iface" 1853 (vr 1101),de "check_ifaces" 1863 (vr 1108),de "check_router" 1877 (vr 1115),de "OspfBase" 2058 (vr 1239),de "MASTER" 2062 (vi 1 2061),de "MORE" 2064 (vi 2 2063),de "INIT" 2066 (vi 4 2065),de "NUMBERS" 2070 (vi 4294967296 2069),de "Describing" 2130 (vr 1281),de "Exchange" 2274 (vr 1391),de "MOST_ASKED" 2278 (vi 4 2277),de "OspfTalk" 2449 (vr 1513),de "hops_from_root" 2467 (vr 1522),de "hops_beyond" 2481 (vr 1529),de "joined_hops" 2487 (vr 1534),de "nearest_spot" 2493 (vr 1539),de "settled_hops" 2499 (vr 1544),de "spf_tree" 2505 (vr 1549),de "EXTERNAL_KIND" 2509 (vi 5 2508),de "own_ways" 2524 (vr 1556),de "OspfTell" 2609 (vr 1614),de "_law_draw" 2620 (vr 1623),de "_law_router" 2633 (vr 1630),de "_law_right" 2639 (vr 1635),de "law" 2645 (vr 1640)]
noncomputable def mainC:List (Nat×Value):=[(25319076994826461023,(vs "law_rh0220_01" 2610)),(98902601795592031,.none),(424783660553514422551011167,.none),(1659310889745210215128927,(.builtin "__main__.__loader__#opaque")),(25319082556674760543,.none),(1824430745566694539975057270354698079,(vr 6)),(108744551357936461410884345695,(vr 4)),(25319068233076399967,(vs "/claim/cut.py" 172)),(1659310237288430402035551,.none),(1509536394348,(vr 21)),(102845514849939302,(vr 28)),(6667588097682927151480,(vr 35)),(6796644926421263671668,(vr 42)),(28556622379578745956585183736691,(vr 49)),(390805355590259,(vr 56)),(6018921944964014490961,(vi (-2147483647) 243)),(23941508715919918417,(vi 2147483647 245)),(93803015055689541,(vi 3600 247)),(103137505774177842924175836742,(vi 900 249)),(95214710458504008,(vi 1800 251)),(103147129957648378719502745932,(vi 5 253)),(126379598820441479000063858590292042212722,(vr 63)),(26401639668123660134,(vr 71)),(6519151129538962219364,(vr 79)),(399558548877158,(vr 86)),(406573494599220616377757800,(vi 1 290)),(26963031975714449403447668207720,(vi 2 291)),(1602437907772740921815144,(vi 3 292)),(96345059986063692,(vi 4 293)),(21906772,(vi 0 298)),(371975664190802,(vi 1 299)),(28002945219993246462173711132019,(vr 101)),(26258640510136577894,(vr 106)),(100312244186739823,(vr 111)),(434544516454702982007055731,(vr 116)),(6721923735825210634086,(vr 123)),(26550255131254158196,(vr 128)),(1754146245885158067432307,(vr 135)),(6519943759774945211507,(vr 142)),(109386504765597504100960137843,(vr 149)),(401757086253058762574746713,(vi 16777215 400)),(354383426766162,(vi 1 402)),(410228679966518043915208020,(vi 3 404)),(6882495173193145990667371654956370,(vi 4 405)),(28160492494582636611442335250291,(vr 160)),(1706811829399685219841139,(vr 167)),(28635550733193670402181616202355,(vr 174)),(1457324708947,(vr 175)),(447828902593282796900480104,(vr 182)),(28949675609515976653678400791923,(vr 187)),(1758517404499137652946021,(vr 194)),(6833326760762095398758,(vr 199)),(26832836272546869094,(vr 206)),(6722644597574121518448,(vr 213)),(28341549791200609509804021480109661445254259,(vi 5 518)),(23220915144213089861,(vi 0 520)),(6129309377458546365780,(vi 2 522)),(104252868258656102,(vr 220)),(29191367681429439819303362191737,(vr 227)),(105660290186573172,(vr 232)),(7250363630908391059952046047392872,(vr 239)),(1856093089512548111347718290624767347,(vr 244)),(1749331650755010875059300,(vr 251)),(27049034373393249652,(vr 258)),(26688734257135710054,(vr 265)),(27998321116935200814202916136307,(vr 272)),(7229604318193178171410115784566131,(vr 277)),(7209083900058085123175225045120115,(vr 284)),(26401636429400010610,(vr 291)),(447828902593303670172315506,(vr 298)),(397354794905458,(vr 303)),(29033849463947462504581832209523,(vr 308)),(29429990328391029654905877327730,(vr 315)),(355452824274254,(vr 316)),(373044775372100,(vr 317)),(6667588100938446038372,(vr 324)),(1578104747376,(vr 331)),(6777908259818561954661,(vr 338)),(1730257933549066141135973,(vr 708)),(124678223756582699244263901545801533453413,(vr 345)),(114941561464801099297437020019,(vr 352)),(408991568027487870151904836,(vi 1 743)),(103451807451249671579804192324,(vi 2 745)),(104082814617400486588932647278,(vi 1 747)),(6902536185782899047291399287826798,(vi 2 749)),(410224104389830472211327342,(vi 3 751)),(394469921228334203041760594,(vi 1 753)),(25851980757620329038805262549324,(vi 2 755)),(6852133772988898700907,(vr 359)),(110937589851642638230429725299,(vr 364)),(6667588091073040115044,(vr 369)),(436905698758544687339826035,(vr 374)),(447828902593303584323888249,(vr 379)),(113394165100098529493169169529,(vr 386)),(6925127559422322634598,(vr 393)),(5711555684,(vr 410)),(368827789961582,(vr 513)),(1598215923303070525714290,(vr 534)),(391009258936514874493267826,(vr 547)),(5929133412,(vr 556)),(1706902549336642491475300,(vr 563)),(23374091502640788325,(vr 659)),(373096315110739,(vr 664)),(1384141769038,(vr 665)),(1397177468228,(vr 666)),(436967052489440781815346036,(vr 673)),(26476204161340566639,(vr 680)),(1735144519315118972428665,(vr 687)),(444196995570222656360115828,(vr 694)),(125030339065783832320596737666888197566068,(vr 701)),(124678223756582699244263901551299091592293,(vr 708)),(111863565455389202799311026547,(vr 715)),(120938985860547018262243817069659054760805,(vr 722)),(28637072770911531084957767790183,(vr 729)),(101739320405093476,(vr 736)),(432457729968271019131534727690173642341,(vi 5 1284)),(1706902553555468422767972,(vr 743)),(441737029874093152165786484,(vr 750)),(103432593728433260,(vr 757)),(6630408071226096444267,(vr 764)),(100887267528435044,(vr 771)),(25900886957148303206,(vr 778)),(6230994548,(vr 785)),(433321736480949289847580004,(vr 792)),(93818322152084819,(vi 255 1367)),(28397229212303381424140571470194,(vr 799)),(110926676610560083688049309037,(vr 806)),(111857620051541982860627113325,(vr 813)),(1739997520295135268726130,(vr 818)),(405124742608184,(vr 825)),(103711934107693366,(vr 832)),(103711934107693620,(vr 839)),(103711934107693874,(vr 846)),(5407069267,(vi 32 1439)),(6055522401215046048325,(vi 20 1441)),(6259592914852449960773,(vi 14 1443)),(23150548685242849861,(vi 2 1445)),(24524721504705075023,(vi 128 1447)),(26550255131422191211,(vr 853)),(26550255131254809721,(vr 858)),(26550255131354816868,(vr 865)),(26836796666302918502,(vr 872)),(408423160964452,(vr 879)),(103711934107120481,(vr 886)),(96340661921992526,(vi 2 1509)),(406507270567588962628878660,(vi 24 1511)),(373100812124500,(vi 12 1513)),(90447288003936596,(vi 16 1515)),(5927553466626290047557,(vi 8 1517)),(5927553466626206551621,(vi 0 1519)),(1517453687456317415967054,(vi 1 1521)),(1474504574035,(vr 887)),(6796865313626833118323,(vr 892)),(6796865313626833841263,(vr 897)),(445439365196095640222785892,(vr 902)),(427305478545624773146539123,(vr 909)),(1739627363802362020066669,(vr 916)),(1739997520297248225453428,(vr 923)),(6795419389852976639846,(vr 930)),(1928319150561737678604588835161793892,(vr 937)),(448971788995370305826026864,(vr 944)),(28156151170796569384844270986606,(vr 949)),(25536944205729001335,(vr 956)),(1668847280819453384683366,(vr 963)),(28158318869294456821785115194736,(vr 968)),(120939058653959390653170842386172455708004,(vr 973)),(6777909944313326169700,(vr 980)),(6925127840871529671012,(vr 987)),(6667588102094077191524,(vr 994)),(1535121908596,(vr 1001)),(104268252730847078,(vr 1008)),(1397462550868,(vi 2 1681)),(25969282039282626406,(vr 1015)),(1834917460348594437287935033354773860,(vr 1022)),(1602160702771275886248281,(vi 1 1705)),(1574011336106407810123076,(vi 16367 1707)),(6758819748404049044325,(vr 1029)),(1701922867726426321806711,(vr 1036)),(6778560995891339881583,(vr 1042)),(6667588105306646013284,(vr 1049)),(6556119495544873643878,(vr 1056)),(6833326760762078617972,(vr 1063)),(450180455551762716313609061,(vr 1070)),(436905698758544657492569716,(vr 1077)),(5759390277,(vi 32 1785)),(21845077,(vi 1500 1787)),(94662807194783566,(vi 3 1789)),(94382440135478867,(vi 2 1791)),(94387937860994117,(vi (-1) 1794)),(394484458055312062730818643,(vi 4294967295 1800)),(105312334510145314325870761043,(vi 16777215 1806)),(354383477752915,(vr 1086)),(1422864041043,(vr 1087)),(6758814687309278965613,(vr 1094)),(28158306704588430299785718752101,(vr 1101)),(109993385564796872536166196595,(vr 1108)),(109993385564796882470762210674,(vr 1115)),(24171787209530241893,(vr 1239)),(366417942955346,(vi 1 2061)),(5592011333,(vi 2 2063)),(5524834644,(vi 4 2065)),(94106432534041171,(vi 4294967296 2069)),(1531918176216343718227559,(vr 1281)),(23452604359494231909,(vr 1391)),(1574011336106352277407044,(vi 4 2277)),(24171787209832229995,(vr 1513)),(7310496585151768570121780225601396,(vr 1522)),(435739552089672914100514404,(vr 1529)),(438157274243096709121929331,(vr 1534)),(113394075282181350031849713524,(vr 1539)),(114941590093645182962372669555,(vr 1544)),(26765005145624438117,(vr 1549)),(25776489375130594917030556159556,(vi 5 2508)),(26478753890451945843,(vr 1556)),(24171787209832492140,(vr 1614)),(6482616824352480584055,(vr 1623)),(424844776200779548169889138,(vr 1630)),(1659549907034295008454772,(vr 1635)),(23880055,(vr 1640))]
noncomputable def ck (n q:Str) (a b d l k v:Nat) (x y z u:Value) (t e:Nat):Obj:=co [vs n a,vs q b,vs "/claim/cut.py" d,vi l 0,vi k 0,vi 0 0,vi 0 0,vi 3 0,vr v,.bool true,vi 181 0,x,.none,y,z,u,vi t 0,vi l 0,vs "/claim/cut.py" e]
noncomputable abbrev m0:Value:=vs "routeloom.prefixes" 194
noncomputable abbrev m1:Value:=vs "routeloom.seqs" 240
noncomputable abbrev m2:Value:=vs "routeloom.graph" 288
noncomputable abbrev m3:Value:=vs "routeloom.stubs" 337
noncomputable abbrev m4:Value:=vs "routeloom.interarea" 398
noncomputable abbrev m5:Value:=vs "routeloom.ospftable" 455
noncomputable abbrev m6:Value:=vs "routeloom.externals" 516
noncomputable abbrev m7:Value:=vs "routeloom.areas" 587
noncomputable abbrev m8:Value:=vs "routeloom.istate" 691
noncomputable abbrev m9:Value:=vs "routeloom.origin" 741
noncomputable abbrev m10:Value:=vs "routeloom.lsdb" 1040
noncomputable abbrev m11:Value:=vs "routeloom.nstate" 1188
noncomputable abbrev m12:Value:=vs "routeloom.flooding" 1286
noncomputable abbrev m13:Value:=vs "routeloom.fletcher" 1365
noncomputable abbrev m14:Value:=vs "routeloom.octets" 1401
noncomputable abbrev m15:Value:=vs "routeloom.lsaform" 1437
noncomputable abbrev m16:Value:=vs "routeloom.ospfiface" 1703
noncomputable abbrev m17:Value:=vs "routeloom.ospfbase" 1783
noncomputable abbrev m18:Value:=vs "routeloom.ospftalk" 2275
noncomputable abbrev m19:Value:=vs "routeloom.spf" 2450
noncomputable abbrev m20:Value:=vs "routeloom.ospftell" 2506
noncomputable def Kf (P:Params):Frag:=[
 (1,dd P [de "builtins" 162 (vr 4),de "__main__" 163 (vr 5)] 2),
 (3,dd P mainL 219),
 (27,ck "mask_of" "mask_of" 196 197 198 5 2 22 (vr 23) (vr 24) (vr 25) (vr 26) 201 202),
 (28,fo 1 "mask_of" "mask_of" 27 .none .none m0),
 (62,ck "seq_octets_number" "seq_octets_number" 255 256 257 24 1 57 (vr 58) (vr 59) (vr 60) (vr 61) 259 260),
 (63,fo 6 "seq_octets_number" "seq_octets_number" 62 .none .none m1),
 (72,to [(vi 3600 247)] 0),
 (78,ck "aged_head" "aged_head" 272 273 274 36 3 73 (vr 74) (vr 75) (vr 76) (vr 77) 278 279),
 (79,fo 8 "aged_head" "aged_head" 78 (vr 72) .none m1),
 (85,ck "key_of" "key_of" 281 282 283 38 1 80 (vr 81) (vr 82) (vr 83) (vr 84) 285 286),
 (86,fo 9 "key_of" "key_of" 85 .none .none m1),
 (100,ck "area_vertices" "area_vertices" 302 303 304 43 1 95 (vr 96) (vr 97) (vr 98) (vr 99) 316 317),
 (101,fo 10 "area_vertices" "area_vertices" 100 .none .none m2),
 (105,ck "links_of" "links_of" 319 320 321 53 1 102 (vr 103) .none .none (vr 104) 322 323),
 (106,fo 11 "links_of" "links_of" 105 .none .none m2),
 (115,ck "graph_edges" "graph_edges" 331 332 333 65 1 112 (vr 113) .none .none (vr 114) 334 335),
 (116,fo 13 "graph_edges" "graph_edges" 115 .none .none m2),
 (122,ck "length_of" "length_of" 339 340 341 75 2 117 (vr 118) (vr 119) (vr 120) (vr 121) 345 346),
 (123,fo 14 "length_of" "length_of" 122 .none .none m3),
 (127,ck "put_best" "put_best" 348 349 350 80 4 124 (vr 125) .none .none (vr 126) 351 352),
 (128,fo 15 "put_best" "put_best" 127 .none .none m3),
 (134,ck "stub_links" "stub_links" 354 355 356 86 2 129 (vr 130) (vr 131) (vr 132) (vr 133) 365 366),
 (135,fo 16 "stub_links" "stub_links" 134 .none .none m3),
 (141,ck "area_nets" "area_nets" 368 369 370 93 5 136 (vr 137) (vr 138) (vr 139) (vr 140) 384 385),
 (142,fo 17 "area_nets" "area_nets" 141 .none .none m3),
 (148,ck "area_routers" "area_routers" 387 388 389 107 2 143 (vr 144) (vr 145) (vr 146) (vr 147) 395 396),
 (149,fo 18 "area_routers" "area_routers" 148 .none .none m3),
 (159,ck "counting_rows" "counting_rows" 408 409 410 117 4 154 (vr 155) (vr 156) (vr 157) (vr 158) 423 424),
 (160,fo 19 "counting_rows" "counting_rows" 159 .none .none m4),
 (166,ck "inter_nets" "inter_nets" 426 427 428 126 5 161 (vr 162) (vr 163) (vr 164) (vr 165) 439 440),
 (167,fo 20 "inter_nets" "inter_nets" 166 .none .none m4),
 (173,ck "inter_routers" "inter_routers" 442 443 444 133 3 168 (vr 169) (vr 170) (vr 171) (vr 172) 452 453),
 (174,fo 21 "inter_routers" "inter_routers" 173 .none .none m4),
 (193,ck "take_route" "take_route" 481 482 483 148 2 188 (vr 189) (vr 190) (vr 191) (vr 192) 487 488),
 (194,fo 24 "take_route" "take_route" 193 .none .none m5),
 (198,ck "routes_of" "routes_of" 490 491 492 154 3 195 (vr 196) .none .none (vr 197) 493 494),
 (199,fo 25 "routes_of" "routes_of" 198 .none .none m5),
 (205,ck "table_of" "table_of" 496 497 498 156 1 200 (vr 201) (vr 202) (vr 203) (vr 204) 502 503),
 (206,fo 26 "table_of" "table_of" 205 .none .none m5),
 (257,ck "ways_out" "ways_out" 572 573 574 214 1 252 (vr 253) (vr 254) (vr 255) (vr 256) 584 585),
 (258,fo 34 "ways_out" "ways_out" 257 .none .none m6),
 (264,ck "range_of" "range_of" 589 590 591 227 3 259 (vr 260) (vr 261) (vr 262) (vr 263) 597 598),
 (265,fo 35 "range_of" "range_of" 264 .none .none m7),
 (271,ck "active_ranges" "active_ranges" 600 601 602 233 3 266 (vr 267) (vr 268) (vr 269) (vr 270) 609 610),
 (272,fo 36 "active_ranges" "active_ranges" 271 .none .none m7),
 (276,ck "dropped_ranges" "dropped_ranges" 612 613 614 240 4 273 (vr 274) .none .none (vr 275) 615 616),
 (277,fo 37 "dropped_ranges" "dropped_ranges" 276 .none .none m7),
 (283,ck "condensed_nets" "condensed_nets" 618 619 620 242 3 278 (vr 279) (vr 280) (vr 281) (vr 282) 627 628),
 (284,fo 38 "condensed_nets" "condensed_nets" 283 .none .none m7),
 (290,ck "nets_for" "nets_for" 630 631 632 251 4 285 (vr 286) (vr 287) (vr 288) (vr 289) 644 645),
 (291,fo 39 "nets_for" "nets_for" 290 .none .none m7),
 (297,ck "routers_for" "routers_for" 647 648 649 267 2 292 (vr 293) (vr 294) (vr 295) (vr 296) 658 659),
 (298,fo 40 "routers_for" "routers_for" 297 .none .none m7),
 (302,ck "id_for" "id_for" 661 662 663 274 4 299 (vr 300) .none .none (vr 301) 664 665),
 (303,fo 41 "id_for" "id_for" 302 .none .none m7),
 (307,ck "numbered_nets" "numbered_nets" 667 668 669 284 2 304 (vr 305) .none .none (vr 306) 670 671),
 (308,fo 42 "numbered_nets" "numbered_nets" 307 .none .none m7),
 (314,ck "summaries_for" "summaries_for" 673 674 675 292 5 309 (vr 310) (vr 311) (vr 312) (vr 313) 688 689),
 (315,fo 43 "summaries_for" "summaries_for" 314 .none .none m7),
 (316,to [(vs "other" 693),(vs "backup" 694),(vs "dr" 695)] 0),
 (317,to [(vs "broadcast" 697),(vs "nbma" 698)] 0),
 (323,ck "is_shared" "is_shared" 700 701 702 309 1 318 (vr 319) (vr 320) (vr 321) (vr 322) 704 705),
 (324,fo 44 "is_shared" "is_shared" 323 .none .none m8),
 (330,ck "on_up" "on_up" 707 708 709 311 1 325 (vr 326) (vr 327) (vr 328) (vr 329) 712 713),
 (331,fo 45 "on_up" "on_up" 330 .none .none m8),
 (344,ck "next_state" "next_state" 724 725 726 321 3 339 (vr 340) (vr 341) (vr 342) (vr 343) 730 731),
 (345,fo 47 "next_state" "next_state" 344 .none .none m8),
 (351,ck "sends_hellos" "sends_hellos" 734 735 736 336 1 346 (vr 347) (vr 348) (vr 349) (vr 350) 738 739),
 (352,fo 48 "sends_hellos" "sends_hellos" 351 .none .none m8),
 (358,ck "stub_link" "stub_link" 757 758 759 346 2 353 (vr 354) (vr 355) (vr 356) (vr 357) 763 764),
 (359,fo 49 "stub_link" "stub_link" 358 .none .none m9),
 (363,ck "full_routers" "full_routers" 766 767 768 349 1 360 (vr 361) .none .none (vr 362) 769 770),
 (364,fo 50 "full_routers" "full_routers" 363 .none .none m9),
 (373,ck "iface_links" "iface_links" 778 779 780 357 2 370 (vr 371) .none .none (vr 372) 781 782),
 (374,fo 52 "iface_links" "iface_links" 373 .none .none m9),
 (378,ck "router_body" "router_body" 784 785 786 369 4 375 (vr 376) .none .none (vr 377) 787 788),
 (379,fo 53 "router_body" "router_body" 378 .none .none m9),
 (385,ck "network_body" "network_body" 790 791 792 377 2 380 (vr 381) (vr 382) (vr 383) (vr 384) 795 796),
 (386,fo 54 "network_body" "network_body" 385 .none .none m9),
 (392,ck "wishes_of" "wishes_of" 798 799 800 381 5 387 (vr 388) (vr 389) (vr 390) (vr 391) 809 810),
 (393,fo 55 "wishes_of" "wishes_of" 392 .none .none m9),
 (406,ck "__init__" "Told.__init__" 824 825 826 390 4 401 (vr 402) (vr 403) (vr 404) (vr 405) 831 832),
 (407,fo 56 "__init__" "Told.__init__" 406 .none .none m9),
 (409,dd P [de "__module__" 819 m9,de "__firstlineno__" 823 (vi 388 822),de "__init__" 833 (vr 407),de "__static_attributes__" 838 (vr 408),de "__dict__" 840 (vr 411),de "__weakref__" 842 (vr 412),de "__doc__" 843 .none] 4),
 (410,⟨.type "type",none,.cls {name:="Told",bases:=[(.type "object")],mro:=[(vr 410),(.type "object")],ns:=409,qualname:="Told",hasDict:=true,slotNames:=[],subclasses:=[],abstract:=false,collection:=none,hasDel:=false},[none,none,some (vs "Told" 812),some (vs "Told" 820),some (.builtin "object.__new__"),some (.bool true)].toArray⟩),
 (427,ck "__init__" "Origin.__init__" 858 859 860 397 3 422 (vr 423) (vr 424) (vr 425) (vr 426) 864 865),
 (428,fo 57 "__init__" "Origin.__init__" 427 .none .none m9),
 (434,ck "wish" "Origin.wish" 867 868 869 404 2 429 (vr 430) (vr 431) (vr 432) (vr 433) 872 873),
 (435,fo 58 "wish" "Origin.wish" 434 .none .none m9),
 (441,ck "row" "Origin.row" 875 876 877 407 3 436 (vr 437) (vr 438) (vr 439) (vr 440) 882 883),
 (442,fo 59 "row" "Origin.row" 441 .none .none m9),
 (448,ck "why" "Origin.why" 885 886 887 411 2 443 (vr 444) (vr 445) (vr 446) (vr 447) 892 893),
 (449,fo 60 "why" "Origin.why" 448 .none .none m9),
 (455,ck "due_time" "Origin.due_time" 895 896 897 421 2 450 (vr 451) (vr 452) (vr 453) (vr 454) 902 903),
 (456,fo 61 "due_time" "Origin.due_time" 455 .none .none m9),
 (467,ck "keys" "Origin.keys" 913 914 915 432 1 464 (vr 465) .none .none (vr 466) 916 917),
 (468,fo 63 "keys" "Origin.keys" 467 .none .none m9),
 (481,ck "due" "Origin.due" 926 927 928 438 2 476 (vr 477) (vr 478) (vr 479) (vr 480) 934 935),
 (482,fo 65 "due" "Origin.due" 481 .none .none m9),
 (488,ck "tell" "Origin.tell" 937 938 939 446 3 483 (vr 484) (vr 485) (vr 486) (vr 487) 945 946),
 (489,fo 66 "tell" "Origin.tell" 488 .none .none m9),
 (495,ck "told_anew" "Origin.told_anew" 948 949 950 453 5 490 (vr 491) (vr 492) (vr 493) (vr 494) 956 957),
 (496,fo 67 "told_anew" "Origin.told_anew" 495 .none .none m9),
 (512,dd P [de "__module__" 853 m9,de "__firstlineno__" 857 (vi 395 856),de "__init__" 866 (vr 428),de "wish" 874 (vr 435),de "row" 884 (vr 442),de "why" 894 (vr 449),de "due_time" 904 (vr 456),de "is_ending" 912 (vr 463),de "keys" 918 (vr 468),de "next_time" 925 (vr 475),de "due" 936 (vr 482),de "tell" 947 (vr 489),de "told_anew" 958 (vr 496),de "gone" 967 (vr 503),de "heard" 979 (vr 510),de "__static_attributes__" 985 (vr 511),de "__dict__" 987 (vr 514),de "__weakref__" 989 (vr 515),de "__doc__" 990 .none] 4),
 (513,⟨.type "type",none,.cls {name:="Origin",bases:=[(.type "object")],mro:=[(vr 513),(.type "object")],ns:=512,qualname:="Origin",hasDict:=true,slotNames:=[],subclasses:=[],abstract:=false,collection:=none,hasDel:=false},[none,none,some (vs "Origin" 846),some (vs "Origin" 854),some (.builtin "object.__new__"),some (.bool true)].toArray⟩),
 (555,ck "aged" "aged" 1042 1043 1044 478 2 550 (vr 551) (vr 552) (vr 553) (vr 554) 1047 1048),
 (556,fo 71 "aged" "aged" 555 .none .none m10),
 (562,ck "is_changed" "is_changed" 1050 1051 1052 480 2 557 (vr 558) (vr 559) (vr 560) (vr 561) 1055 1056),
 (563,fo 72 "is_changed" "is_changed" 562 .none .none m10),
 (576,ck "__init__" "Database.__init__" 1070 1071 1072 488 1 571 (vr 572) (vr 573) (vr 574) (vr 575) 1074 1075),
 (577,fo 73 "__init__" "Database.__init__" 576 .none .none m10),
 (583,ck "put" "Database.put" 1077 1078 1079 491 3 578 (vr 579) (vr 580) (vr 581) (vr 582) 1085 1086),
 (584,fo 74 "put" "Database.put" 583 .none .none m10),
 (590,ck "look" "Database.look" 1088 1089 1090 497 3 585 (vr 586) (vr 587) (vr 588) (vr 589) 1096 1097),
 (591,fo 75 "look" "Database.look" 590 .none .none m10),
 (611,ck "keys" "Database.keys" 1115 1116 1117 509 1 606 (vr 607) (vr 608) (vr 609) (vr 610) 1119 1120),
 (612,fo 78 "keys" "Database.keys" 611 .none .none m10),
 (616,ck "all_rows" "Database.all_rows" 1122 1123 1124 512 2 613 (vr 614) .none .none (vr 615) 1125 1126),
 (617,fo 79 "all_rows" "Database.all_rows" 616 .none .none m10),
 (658,dd P [de "__module__" 1065 m10,de "__firstlineno__" 1069 (vi 486 1068),de "__init__" 1076 (vr 577),de "put" 1087 (vr 584),de "look" 1098 (vr 591),de "since" 1106 (vr 598),de "drop" 1114 (vr 605),de "keys" 1121 (vr 612),de "all_rows" 1127 (vr 617),de "summary" 1133 (vr 622),de "ended" 1139 (vr 627),de "to_refresh" 1148 (vr 634),de "end" 1159 (vr 641),de "swept" 1169 (vr 648),de "next_time" 1178 (vr 656),de "__static_attributes__" 1180 (vr 657),de "__dict__" 1182 (vr 660),de "__weakref__" 1184 (vr 661),de "__doc__" 1185 .none] 4),
 (659,⟨.type "type",none,.cls {name:="Database",bases:=[(.type "object")],mro:=[(vr 659),(.type "object")],ns:=658,qualname:="Database",hasDict:=true,slotNames:=[],subclasses:=[],abstract:=false,collection:=none,hasDel:=false},[none,none,some (vs "Database" 1058),some (vs "Database" 1066),some (.builtin "object.__new__"),some (.bool true)].toArray⟩),
 (666,to [(vs "clear_lists" 1201),(vs "stop_inactivity" 1202)] 0),
 (707,ck "next_state" "next_state" 1245 1246 1247 566 3 702 (vr 703) (vr 704) (vr 705) (vr 706) 1251 1252),
 (708,fo 91 "next_state" "next_state" 707 .none .none m11),
 (742,ck "is_reached" "is_reached" 1288 1289 1290 591 3 737 (vr 738) (vr 739) (vr 740) (vr 741) 1294 1295),
 (743,fo 96 "is_reached" "is_reached" 742 .none .none m12),
 (756,ck "owe_all" "owe_all" 1307 1308 1309 604 3 751 (vr 752) (vr 753) (vr 754) (vr 755) 1315 1316),
 (757,fo 98 "owe_all" "owe_all" 756 .none .none m12),
 (770,ck "flooded" "flooded" 1326 1327 1328 613 4 765 (vr 766) (vr 767) (vr 768) (vr 769) 1337 1338),
 (771,fo 100 "flooded" "flooded" 770 .none .none m12),
 (791,ck "forget_owed" "forget_owed" 1355 1356 1357 627 2 786 (vr 787) (vr 788) (vr 789) (vr 790) 1362 1363),
 (792,fo 103 "forget_owed" "forget_owed" 791 .none .none m12),
 (798,ck "fletcher_pair" "fletcher_pair" 1369 1370 1371 633 1 793 (vr 794) (vr 795) (vr 796) (vr 797) 1376 1377),
 (799,fo 104 "fletcher_pair" "fletcher_pair" 798 .none .none m13),
 (805,ck "fletcher_sum" "fletcher_sum" 1379 1380 1381 639 2 800 (vr 801) (vr 802) (vr 803) (vr 804) 1388 1389),
 (806,fo 105 "fletcher_sum" "fletcher_sum" 805 .none .none m13),
 (817,ck "put_number" "put_number" 1403 1404 1405 655 2 814 (vr 815) .none .none (vr 816) 1406 1407),
 (818,fo 107 "put_number" "put_number" 817 .none .none m14),
 (824,ck "put_u8" "put_u8" 1409 1410 1411 659 1 819 (vr 820) (vr 821) (vr 822) (vr 823) 1413 1414),
 (825,fo 108 "put_u8" "put_u8" 824 .none .none m14),
 (831,ck "put_u16" "put_u16" 1416 1417 1418 661 1 826 (vr 827) (vr 828) (vr 829) (vr 830) 1420 1421),
 (832,fo 109 "put_u16" "put_u16" 831 .none .none m14),
 (838,ck "put_u24" "put_u24" 1423 1424 1425 663 1 833 (vr 834) (vr 835) (vr 836) (vr 837) 1427 1428),
 (839,fo 110 "put_u24" "put_u24" 838 .none .none m14),
 (845,ck "put_u32" "put_u32" 1430 1431 1432 665 1 840 (vr 841) (vr 842) (vr 843) (vr 844) 1434 1435),
 (846,fo 111 "put_u32" "put_u32" 845 .none .none m14),
 (852,ck "put_link" "put_link" 1449 1450 1451 673 1 847 (vr 848) (vr 849) (vr 850) (vr 851) 1457 1458),
 (853,fo 112 "put_link" "put_link" 852 .none .none m15),
 (857,ck "put_body" "put_body" 1460 1461 1462 676 1 854 (vr 855) .none .none (vr 856) 1463 1464),
 (858,fo 113 "put_body" "put_body" 857 .none .none m15),
 (864,ck "put_head" "put_head" 1466 1467 1468 689 3 859 (vr 860) (vr 861) (vr 862) (vr 863) 1480 1481),
 (865,fo 114 "put_head" "put_head" 864 .none .none m15),
 (871,ck "total_of" "total_of" 1483 1484 1485 693 1 866 (vr 867) (vr 868) (vr 869) (vr 870) 1488 1489),
 (872,fo 115 "total_of" "total_of" 871 .none .none m15),
 (878,ck "summed" "summed" 1491 1492 1493 696 1 873 (vr 874) (vr 875) (vr 876) (vr 877) 1495 1496),
 (879,fo 116 "summed" "summed" 878 .none .none m15),
 (1028,ck "new_iface" "new_iface" 1709 1710 1711 795 2 1023 (vr 1024) (vr 1025) (vr 1026) (vr 1027) 1715 1716),
 (1029,fo 139 "new_iface" "new_iface" 1028 .none .none m16),
 (1076,ck "iface_event" "iface_event" 1769 1770 1771 834 3 1071 (vr 1072) (vr 1073) (vr 1074) (vr 1075) 1780 1781),
 (1077,fo 146 "iface_event" "iface_event" 1076 .none .none m16),
 (1078,to [(vs "area" 1808),(vi 0 1809),(vi 4294967295 1800)] 0),
 (1079,to [(vs "address" 1810),(vi 0 1811),(vi 4294967295 1800)] 0),
 (1080,to [(vs "length" 1812),(vi 0 1813),(vi 32 1785)] 0),
 (1081,to [(vs "cost" 1814),(vi 1 1815),(vi 65535 1816)] 0),
 (1082,to [(vs "priority" 1817),(vi 0 1818),(vi 255 1819)] 0),
 (1083,to [(vs "hello" 1820),(vi 1 1821),(vi 65535 1822)] 0),
 (1084,to [(vs "dead" 1823),(vi 1 1824),(vi 4294967295 1800)] 0),
 (1085,to [(vs "resend" 1825),(vi 1 1826),(vi 65535 1827)] 0),
 (1086,to [(vr 1078),(vr 1079),(vr 1080),(vr 1081),(vr 1082),(vr 1083),(vr 1084),(vr 1085)] 0),
 (1087,to [(vs "broadcast" 1829),(vs "nbma" 1830),(vs "point_to_point" 1831),(vs "multipoint" 1832)] 0),
 (1093,ck "need_room" "need_room" 1834 1835 1836 865 4 1088 (vr 1089) (vr 1090) (vr 1091) (vr 1092) 1841 1842),
 (1094,fo 147 "need_room" "need_room" 1093 .none .none m17),
 (1100,ck "checked_iface" "checked_iface" 1844 1845 1846 868 1 1095 (vr 1096) (vr 1097) (vr 1098) (vr 1099) 1851 1852),
 (1101,fo 148 "checked_iface" "checked_iface" 1100 .none .none m17),
 (1107,ck "check_ifaces" "check_ifaces" 1854 1855 1856 876 1 1102 (vr 1103) (vr 1104) (vr 1105) (vr 1106) 1861 1862),
 (1108,fo 149 "check_ifaces" "check_ifaces" 1107 .none .none m17),
 (1114,ck "check_router" "check_router" 1864 1865 1866 886 1 1109 (vr 1110) (vr 1111) (vr 1112) (vr 1113) 1875 1876),
 (1115,fo 150 "check_router" "check_router" 1114 .none .none m17),
 (1126,ck "__init__" "OspfBase.__init__" 1890 1891 1892 902 2 1123 (vr 1124) .none .none (vr 1125) 1893 1894),
 (1127,fo 151 "__init__" "OspfBase.__init__" 1126 .none .none m17),
 (1131,ck "areas" "OspfBase.areas" 1896 1897 1898 919 1 1128 (vr 1129) .none .none (vr 1130) 1899 1900),
 (1132,fo 152 "areas" "OspfBase.areas" 1131 .none .none m17),
 (1136,ck "options_of" "OspfBase.options_of" 1902 1903 1904 922 2 1133 (vr 1134) .none .none (vr 1135) 1905 1906),
 (1137,fo 153 "options_of" "OspfBase.options_of" 1136 .none .none m17),
 (1141,ck "iface" "OspfBase.iface" 1908 1909 1910 925 2 1138 (vr 1139) .none .none (vr 1140) 1911 1912),
 (1142,fo 154 "iface" "OspfBase.iface" 1141 .none .none m17),
 (1146,ck "area_ifaces" "OspfBase.area_ifaces" 1914 1915 1916 928 2 1143 (vr 1144) .none .none (vr 1145) 1917 1918),
 (1147,fo 155 "area_ifaces" "OspfBase.area_ifaces" 1146 .none .none m17),
 (1174,ck "place_of" "OspfBase.place_of" 1948 1949 1950 941 3 1169 (vr 1170) (vr 1171) (vr 1172) (vr 1173) 1954 1955),
 (1175,fo 159 "place_of" "OspfBase.place_of" 1174 .none .none m17),
 (1181,ck "look" "OspfBase.look" 1957 1958 1959 944 3 1176 (vr 1177) (vr 1178) (vr 1179) (vr 1180) 1963 1964),
 (1182,fo 160 "look" "OspfBase.look" 1181 .none .none m17),
 (1207,ck "send_row" "OspfBase.send_row" 1990 1991 1992 960 3 1202 (vr 1203) (vr 1204) (vr 1205) (vr 1206) 1999 2000),
 (1208,fo 164 "send_row" "OspfBase.send_row" 1207 .none .none m17),
 (1214,ck "take_row" "OspfBase.take_row" 2002 2003 2004 968 4 1209 (vr 1210) (vr 1211) (vr 1212) (vr 1213) 2012 2013),
 (1215,fo 165 "take_row" "OspfBase.take_row" 1214 .none .none m17),
 (1221,ck "tell_row" "OspfBase.tell_row" 2015 2016 2017 982 3 1216 (vr 1217) (vr 1218) (vr 1219) (vr 1220) 2021 2022),
 (1222,fo 166 "tell_row" "OspfBase.tell_row" 1221 .none .none m17),
 (1238,dd P [de "__module__" 1885 m17,de "__firstlineno__" 1889 (vi 900 1888),de "__init__" 1895 (vr 1127),de "areas" 1901 (vr 1132),de "options_of" 1907 (vr 1137),de "iface" 1913 (vr 1142),de "area_ifaces" 1919 (vr 1147),de "put_out" 1930 (vr 1154),de "put_rows" 1940 (vr 1161),de "taken_out" 1947 (vr 1168),de "place_of" 1956 (vr 1175),de "look" 1965 (vr 1182),de "look_head" 1974 (vr 1189),de "heads_for" 1983 (vr 1196),de "ended_for" 1989 (vr 1201),de "send_row" 2001 (vr 1208),de "take_row" 2014 (vr 1215),de "tell_row" 2023 (vr 1222),de "end_rows" 2030 (vr 1229),de "drop_ended" 2039 (vr 1236),de "__static_attributes__" 2051 (vr 1237),de "__dict__" 2053 (vr 1240),de "__weakref__" 2055 (vr 1241),de "__doc__" 2056 .none] 4),
 (1239,⟨.type "type",none,.cls {name:="OspfBase",bases:=[(.type "object")],mro:=[(vr 1239),(.type "object")],ns:=1238,qualname:="OspfBase",hasDict:=true,slotNames:=[],subclasses:=[(vr 1513)],abstract:=false,collection:=none,hasDel:=false},[none,none,some (vs "OspfBase" 1878),some (vs "OspfBase" 1886),some (.builtin "object.__new__"),some (.bool true)].toArray⟩),
 (1406,ck "at_iface" "OspfTalk.at_iface" 2291 2292 2293 1083 3 1401 (vr 1402) (vr 1403) (vr 1404) (vr 1405) 2299 2300),
 (1407,fo 187 "at_iface" "OspfTalk.at_iface" 1406 .none .none m18),
 (1512,dd P [de "__module__" 2286 m18,de "__firstlineno__" 2290 (vi 1081 2289),de "at_iface" 2301 (vr 1407),de "at_neighbour" 2307 (vr 1412),de "do_neighbour" 2320 (vr 1419),de "ask_rows" 2329 (vr 1426),de "take_octets" 2339 (vr 1433),de "take_payload" 2349 (vr 1440),de "take_ack" 2359 (vr 1447),de "take_hello" 2370 (vr 1454),de "take_description" 2380 (vr 1461),de "take_request" 2390 (vr 1468),de "take_update" 2400 (vr 1475),de "facts_of" 2410 (vr 1482),de "take_sent" 2420 (vr 1489),de "answer_own" 2429 (vr 1496),de "all_loaded" 2436 (vr 1503),de "send_hello" 2444 (vr 1510),de "__static_attributes__" 2446 (vr 1511),de "__doc__" 2447 .none] 2),
 (1513,⟨.type "type",none,.cls {name:="OspfTalk",bases:=[(vr 1239)],mro:=[(vr 1513),(vr 1239),(.type "object")],ns:=1512,qualname:="OspfTalk",hasDict:=true,slotNames:=[],subclasses:=[(vr 1614)],abstract:=false,collection:=none,hasDel:=false},[some (vr 1394),none,some (vs "OspfTalk" 2279),some (vs "OspfTalk" 2287),some (.builtin "object.__new__"),some (.bool true)].toArray⟩),
 (1538,ck "nearest_spot" "nearest_spot" 2488 2489 2490 1184 2 1535 (vr 1536) .none .none (vr 1537) 2491 2492),
 (1539,fo 206 "nearest_spot" "nearest_spot" 1538 .none .none m19),
 (1543,ck "settled_hops" "settled_hops" 2494 2495 2496 1187 1 1540 (vr 1541) .none .none (vr 1542) 2497 2498),
 (1544,fo 207 "settled_hops" "settled_hops" 1543 .none .none m19),
 (1548,ck "spf_tree" "spf_tree" 2500 2501 2502 1189 3 1545 (vr 1546) .none .none (vr 1547) 2503 2504),
 (1549,fo 208 "spf_tree" "spf_tree" 1548 .none .none m19),
 (1555,ck "own_ways" "own_ways" 2510 2511 2512 1214 1 1550 (vr 1551) (vr 1552) (vr 1553) (vr 1554) 2522 2523),
 (1556,fo 209 "own_ways" "own_ways" 1555 .none .none m20),
 (1569,ck "is_border" "OspfTell.is_border" 2537 2538 2539 1232 1 1564 (vr 1565) (vr 1566) (vr 1567) (vr 1568) 2541 2542),
 (1570,fo 210 "is_border" "OspfTell.is_border" 1569 .none .none m20),
 (1576,ck "area_ways" "OspfTell.area_ways" 2544 2545 2546 1235 2 1571 (vr 1572) (vr 1573) (vr 1574) (vr 1575) 2554 2555),
 (1577,fo 211 "area_ways" "OspfTell.area_ways" 1576 .none .none m20),
 (1581,ck "ways_within" "OspfTell.ways_within" 2557 2558 2559 1242 1 1578 (vr 1579) .none .none (vr 1580) 2560 2561),
 (1582,fo 212 "ways_within" "OspfTell.ways_within" 1581 .none .none m20),
 (1591,ck "summary_wishes" "OspfTell.summary_wishes" 2569 2570 2571 1268 4 1588 (vr 1589) .none .none (vr 1590) 2572 2573),
 (1592,fo 214 "summary_wishes" "OspfTell.summary_wishes" 1591 .none .none m20),
 (1596,ck "external_wishes" "OspfTell.external_wishes" 2575 2576 2577 1273 1 1593 (vr 1594) .none .none (vr 1595) 2578 2579),
 (1597,fo 215 "external_wishes" "OspfTell.external_wishes" 1596 .none .none m20),
 (1603,ck "wish_all" "OspfTell.wish_all" 2581 2582 2583 1280 1 1598 (vr 1599) (vr 1600) (vr 1601) (vr 1602) 2593 2594),
 (1604,fo 216 "wish_all" "OspfTell.wish_all" 1603 .none .none m20),
 (1610,ck "tell_all" "OspfTell.tell_all" 2596 2597 2598 1292 1 1605 (vr 1606) (vr 1607) (vr 1608) (vr 1609) 2603 2604),
 (1611,fo 217 "tell_all" "OspfTell.tell_all" 1610 .none .none m20),
 (1613,dd P [de "__module__" 2532 m20,de "__firstlineno__" 2536 (vi 1230 2535),de "is_border" 2543 (vr 1570),de "area_ways" 2556 (vr 1577),de "ways_within" 2562 (vr 1582),de "table" 2568 (vr 1587),de "summary_wishes" 2574 (vr 1592),de "external_wishes" 2580 (vr 1597),de "wish_all" 2595 (vr 1604),de "tell_all" 2605 (vr 1611),de "__static_attributes__" 2606 (vr 1612),de "__doc__" 2607 .none] 2),
 (1614,⟨.type "type",none,.cls {name:="OspfTell",bases:=[(vr 1513)],mro:=[(vr 1614),(vr 1513),(vr 1239),(.type "object")],ns:=1613,qualname:="OspfTell",hasDict:=true,slotNames:=[],subclasses:=[],abstract:=false,collection:=none,hasDel:=false},[some (vr 1557),none,some (vs "OspfTell" 2525),some (vs "OspfTell" 2533),some (.builtin "object.__new__"),some (.bool true)].toArray⟩),
 (1622,ck "_law_draw" "_law_draw" 2612 2613 2614 1302 2 1617 (vr 1618) (vr 1619) (vr 1620) (vr 1621) 2618 2619),
 (1623,fo 218 "_law_draw" "_law_draw" 1622 .none .none (vs "law_rh0220_01" 2610)),
 (1629,ck "_law_router" "_law_router" 2621 2622 2623 1308 2 1624 (vr 1625) (vr 1626) (vr 1627) (vr 1628) 2631 2632),
 (1630,fo 219 "_law_router" "_law_router" 1629 .none .none (vs "law_rh0220_01" 2610)),
 (1634,ck "_law_right" "_law_right" 2634 2635 2636 1319 5 1631 (vr 1632) .none .none (vr 1633) 2637 2638),
 (1635,fo 220 "_law_right" "_law_right" 1634 .none .none (vs "law_rh0220_01" 2610)),
 (1639,ck "law" "law" 2640 2641 2642 1335 1 1636 (vr 1637) .none .none (vr 1638) 2643 2644),
 (1640,fo 221 "law" "law" 1639 .none .none (vs "law_rh0220_01" 2610))]
noncomputable def Ka:List Addr:=[1,3,27,28,62,63,72,78,79,85,86,100,101,105,106,115,116,122,123,127,128,134,135,141,142,148,149,159,160,166,167,173,174,193,194,198,199,205,206,257,258,264,265,271,272,276,277,283,284,290,291,297,298,302,303,307,308,314,315,316,317,323,324,330,331,344,345,351,352,358,359,363,364,373,374,378,379,385,386,392,393,406,407,409,410,427,428,434,435,441,442,448,449,455,456,467,468,481,482,488,489,495,496,512,513,555,556,562,563,576,577,583,584,590,591,611,612,616,617,658,659,666,707,708,742,743,756,757,770,771,791,792,798,799,805,806,817,818,824,825,831,832,838,839,845,846,852,853,857,858,864,865,871,872,878,879,1028,1029,1076,1077,1078,1079,1080,1081,1082,1083,1084,1085,1086,1087,1093,1094,1100,1101,1107,1108,1114,1115,1126,1127,1131,1132,1136,1137,1141,1142,1146,1147,1174,1175,1181,1182,1207,1208,1214,1215,1221,1222,1238,1239,1406,1407,1512,1513,1538,1539,1543,1544,1548,1549,1555,1556,1569,1570,1576,1577,1581,1582,1591,1592,1596,1597,1603,1604,1610,1611,1613,1614,1622,1623,1629,1630,1634,1635,1639,1640]
noncomputable def Lo:List Str:=(["_wall","mask_of","is_prefix","prefix_at","holds_address","covers","FIRST_SEQ","LAST_SEQ","MAX_AGE","MAX_AGE_DIFF","REFRESH","MIN_INTERVAL","seq_octets_number","newer_of","aged_head","key_of","POINT_graph","TRANSIT_graph","STUB_graph","VIRTUAL","NET","ROUTER","area_vertices","links_of","data_to","graph_edges","length_of","put_best","stub_links","area_nets","area_routers","LS_INFINITY","BORDER","SUMMARY_NET","SUMMARY_ROUTER","counting_rows","inter_nets","inter_routers","SORTS","route_worth","merged_routes","take_route","routes_of","table_of","looked_up","EXTERNAL_externals","BACKBONE","LEADS_OUT","rank_of","preferred_way","way_out","external_worth","external_routes","route_told","ways_out","range_of","active_ranges","dropped_ranges","condensed_nets","nets_for","routers_for","id_for","numbered_nets","summaries_for","CHOSEN","SHARED","is_shared","on_up","on_choice","next_state","next_state_istate","sends_hellos","ROUTER_KIND","NETWORK_KIND","POINT_origin","TRANSIT_origin","STUB_origin","FLAG_BORDER","FLAG_EXTERNAL","stub_link","full_routers","is_joined","iface_links","router_body","network_body","wishes_of","Told","Origin","RouteError","ConfigError","aged","is_changed","Database","STATES","BEGIN","ENDED","is_at_least","on_hello","on_two_way","on_adjacent","on_exchange_event","next_state_nstate","is_both_ways","changes_interface","is_exchanging","is_told","EXTERNAL_receive","is_reached","met_request","owe_all","goes_back","flooded","group_of","sent","forget_owed","MODULUS","fletcher_pair","fletcher_sum","internet_sum","put_number","put_u8","put_u16","put_u24","put_u32","BITS","HEAD_SIZE","SUM_PLACE","AGE_SIZE","TYPE_TWO","put_link","put_body","put_head","total_of","summed","put_lsa","VERSION","PACKET_HEAD","SUM_AT","AUTH_AT","AUTH_SIZE","AUTH_NONE","AUTH_PLAIN","WORDS","put_heads","put_hello","put_payload","auth_octets","packet_sum","put_packet","packet_of","says_designated","says_backup","can_be_chosen","best_row","address_of","chosen_backup","chosen_designated","one_round","with_said","is_turned","elect","role_of","E_BIT","hello_of","adjacent_wanted","SEND_DELAY","MOST_NAMED","new_iface","hello_view","own_hello","is_wanted","choice_of","router_at","take_choice","iface_event","WIRE","MTU","PORTION","OPTIONS","OUTSIDE","FOUR_OCTETS","THREE_OCTETS","BOUNDS","KINDS","need_room","checked_iface","check_ifaces","check_router","OspfBase","MASTER","MORE","INIT","NUMBERS","Describing","Exchange","MOST_ASKED","OspfTalk","hops_from_root","hops_beyond","joined_hops","nearest_spot","settled_hops","spf_tree","EXTERNAL_KIND","own_ways","OspfTell","_law_draw","_law_router","_law_right"]:List String).map Str.ofString
namespace Z
section
variable {β:Type}
def getR (T:BT):Nat->(Obj->β)->β->β:=
 BT.rec (motive:=λU=>Nat->(Obj->β)->β->β) (λU U d=>d) (λv U U l r i k d=>Bool.rec (Bool.rec (r (Nat.sub (Nat.div i 2) 1) k d) (l (Nat.div i 2) k d) (Nat.beq (Nat.mod i 2) 1)) (k v) (Nat.beq i 0)) T
theorem getR_eq:∀(T:BT) (i:Nat) (k:Obj->β) (d:β),getR T i k d=match T.get i with|some o=>k o|none=>d
 | .nil,_,_,_=>rfl
 | .node v l r,i,k,d=>by
   show (Bool.rec (Bool.rec (getR r (Nat.sub (Nat.div i 2) 1) k d) (getR l (Nat.div i 2) k d) (Nat.beq (Nat.mod i 2) 1)) (k v) (Nat.beq i 0):β)=_
   unfold BT.get
   show (Bool.rec (Bool.rec (getR r (i/2-1) k d) (getR l (i/2) k d) (Nat.beq (i%2) 1)) (k v) (Nat.beq i 0):β)=_
   rw[getR_eq l,getR_eq r]
   cases Nat.beq i 0<;>cases Nat.beq (i%2) 1<;>rfl
end
def setR (T:BT):Nat->(Obj->Obj)->BT:=
 BT.rec (motive:=λU=>Nat->(Obj->Obj)->BT) (λU U=>.nil) (λv l r sl sr i f=>Bool.rec (Bool.rec (.node v l (sr (Nat.sub (Nat.div i 2) 1) f)) (.node v (sl (Nat.div i 2) f) r) (Nat.beq (Nat.mod i 2) 1)) (.node (f v) l r) (Nat.beq i 0)) T
theorem setR_eq:∀(T:BT) (i:Nat) (f:Obj->Obj),setR T i f=T.set i f
 | .nil,_,_=>rfl
 | .node v l r,i,f=>by
   show (Bool.rec (Bool.rec (.node v l (setR r (i/2-1) f)) (.node v (setR l (i/2) f) r) (Nat.beq (i%2) 1)) (.node (f v) l r) (Nat.beq i 0):BT)=_
   unfold BT.set
   rw[setR_eq l,setR_eq r]
   cases Nat.beq i 0<;>cases Nat.beq (i%2) 1<;>rfl
def insR (T:BT):Nat->Obj->BT:=
 BT.rec (motive:=λU=>Nat->Obj->BT) (λU o=>.node o .nil .nil) (λv l r sl sr i o=>Bool.rec (Bool.rec (.node v l (sr (Nat.sub (Nat.div i 2) 1) o)) (.node v (sl (Nat.div i 2) o) r) (Nat.beq (Nat.mod i 2) 1)) (.node o l r) (Nat.beq i 0)) T
theorem insR_eq:∀(T:BT) (i:Nat) (o:Obj),insR T i o=T.ins i o
 | .nil,_,_=>rfl
 | .node v l r,i,o=>by
   show (Bool.rec (Bool.rec (.node v l (insR r (i/2-1) o)) (.node v (insR l (i/2) o) r) (Nat.beq (i%2) 1)) (.node o l r) (Nat.beq i 0):BT)=_
   unfold BT.ins
   rw[insR_eq l,insR_eq r]
   cases Nat.beq i 0<;>cases Nat.beq (i%2) 1<;>rfl
def aliveR {β:Type} (o:Obj) (k:Obj->β) (d:β):β:=
 Data.rec (motive:=λU=>β) (k o) (λU=>k o) (λU U=>k o) (λU U=>k o) (λU U U=>k o) (λU U=>k o) (λU=>k o) (λU=>k o) (λU=>k o) (λU=>k o) d o.data
theorem aliveR_eq {β:Type} (o:Obj) (k:Obj->β) (d:β):aliveR o k d=match alive o with|some o=>k o|none=>d:=by
 obtain ⟨c,di,dt,sl⟩:=o
 cases dt<;>rfl
abbrev TR:=Option (BT×Nat×Nat)
abbrev TM:=BT->Nat->Nat->Code->Pos->List Frame->TR
abbrev TI:=Sem PySem.Fin->TM
def stepZ:(Code->Sem PySem.Fin)->Program->World->SharedT->Thread->Option (SharedT×Thread):=PySem.W.Fast.tw10156331382660048174
theorem stepZ_eq:@stepT=stepZ:=PySem.W.Fast.te10156331382660048174
def okZ:Nat->Option Value->Thread->Bool:=PySem.W.Fast.tw6613529449190102663
theorem okZ_eq:@stepOk=okZ:=PySem.W.Fast.te6613529449190102663
def denZ:(String->Option Builtin)->Code->Sem PySem.Fin:=PySem.W.Fast.tw11892475500146522536
theorem denZ_eq:@denote=denZ:=PySem.W.Fast.te11892475500146522536
def tabZ:String->Option Builtin:=PySem.W.Fast.tw14364793385576792824
theorem tabZ_eq:@treeTable=tabZ:=PySem.W.Fast.te14364793385576792824
def dz:Code->Sem PySem.Fin:=denZ tabZ
theorem dz_eq:denote treeTable=dz:=by rw[denZ_eq,tabZ_eq];rfl
noncomputable def mNo:TM:=λU U U U U U=>none
def mOther (p:Program) (w:World) (ih:TI) (cur:Sem PySem.Fin):TM:=λT n tk c q st=>
 match okZ 11 (some (.ref 6)) ⟨cur,c,q,st⟩ with
 |false=>none
 |true=>match stepZ dz p w ⟨T,n,{},⟨[]⟩,{},tk,{}⟩ ⟨cur,c,q,st⟩ with
  |some (⟨T',n',_,⟨[]⟩,⟨0,0,0,0⟩,tk',_⟩,⟨cur',c',q',st'⟩)=>ih cur' T' n' tk' c' q' st'
  |_=>none
def mDone (ih:TI) (f:Flow):TM:=λT n tk U U st=>
 List.rec (motive:=λU=>TR) (some (T,n,tk)) (λfr rest U=>Frame.rec (motive:=λU=>TR) (λk U U U c q U=>ih (k (.ok f)) T n tk c q rest) (λU U U U U=>none) fr) st
def mRaise (ih:TI) (e:Value):TM:=λT n tk U U st=>
 List.rec (motive:=λU=>TR) none (λfr rest U=>Frame.rec (motive:=λU=>TR) (λk U U U c q U=>ih (k (.error e)) T n tk c q rest) (λU U U U U=>none) fr) st
noncomputable def mAt (ih:TI) (q:Pos) (k:Unit->Sem PySem.Fin):TM:=λT n tk c U st=>ih (k ()) T n tk c q st
def mLoad (ih:TI) (a:Addr) (k:Obj->Sem PySem.Fin):TM:=λT n tk c q st=>Bool.rec none (getR T a (λo=>aliveR o (λo=>ih (k o) T n tk c q st) none) none) (Nat.blt a n)
def mUpd (ih:TI) (a:Addr) (f:Obj->Obj) (k:Unit->Sem PySem.Fin):TM:=λT n tk c q st=>
 Bool.rec none (getR T a (λo=>aliveR o (λU=>ih (k ()) (setR T a f) n tk c q st) none) none) (and (Nat.blt a n) (or (Nat.ble 11 a) (or (Nat.beq a 3) (or (Nat.beq a 2) (Nat.beq a 6)))))
def mAlloc (ih:TI) (o:Obj) (k:Addr->Sem PySem.Fin):TM:=λT n tk c q st=>getR (insR T n o) n (λU=>ih (k n) (insR T n o) (Nat.succ n) tk c q st) none
def mIfAlive (ih:TI) (a:Addr) (k:Option Obj->Sem PySem.Fin):TM:=λT n tk c q st=>
 Bool.rec (ih (k none) T n tk c q st) (getR T a (λo=>aliveR o (λo=>ih (k (some o)) T n tk c q st) (ih (k none) T n tk c q st)) none) (Nat.blt a n)
noncomputable def mFresh (ih:TI) (k:Tok->Sem PySem.Fin):TM:=λT n tk c q st=>ih (k tk) T n (Nat.succ tk) c q st
def keptOf (p:Program) (w:World) (c':Code) (h:Option Value) (g:Bool) (l:List Value) (k:Result->Sem PySem.Fin) (c:Code):List Value:=
 match step dz p w ⟨{},⟨[]⟩,{},0,{}⟩ ⟨.call c' h g l k,c,default,[]⟩ with
 | .go _ ⟨_,_,_,.ret _ _ _ _ _ _ kept::_⟩=>kept
 |_=>[]
def mCall (p:Program) (w:World) (ih:TI) (c':Code) (h:Option Value) (g:Bool) (l:List Value) (k:Result->Sem PySem.Fin):TM:=λT n tk c q st=>
 ih (dz c') T n tk c' q (.ret k h g l c q (keptOf p w c' h g l k c)::st)
def goF (p:Program) (w:World) (N:Nat):TI:=
 Nat.rec (motive:=λU=>TI) (λU=>mNo) (λU ih cur=>Sem.rec (motive:=λU=>TM)
  (pure:=λa=>PySem.Fin.rec (motive:=λU=>TM) (λf=>mDone ih f) (λc=>mOther p w ih (.pure (.again c))) a)
  (raise:=λe=>mRaise ih e)
  (unsupported:=λU=>mNo)
  (finish:=λU=>mNo)
  (rule:=λU k U=>ih (k ()))
  («at»:=λq k U=>mAt ih q k)
  (load:=λa U k U=>mLoad ih a k)
  (update:=λa U f k U=>mUpd ih a f k)
  (alloc:=λo k U=>mAlloc ih o k)
  (loadIfAlive:=λa k U=>mIfAlive ih a k)
  (point:=λU k U=>ih (k ()))
  (register:=λU U U=>mNo)
  (fresh:=λk U=>mFresh ih k)
  (ask:=λk U=>ih (k ⟨p,w.params⟩))
  (choose:=λU U U U=>mNo)
  (os:=λU U U U=>mNo)
  (call:=λc h g l k U=>mCall p w ih c h g l k)
  (handled:=λo k U=>mOther p w ih (.handled o k))
  (newGen:=λU U U=>mNo)
  (genState:=λU U U=>mNo)
  (resume:=λU U U U U=>mNo)
  (yield:=λU U U U U=>mNo)
  (stack:=λk U=>mOther p w ih (.stack k))
  (fork:=λU U U=>mNo)
  (thread:=λk U=>ih (k 0))
  (await:=λU U U U U U=>mNo) cur) N
def tree0 (P:Params):BT:=(((((((((((BT.nil.ins 0 (boot_o_0 P)).ins 1 (boot_o_1 P)).ins 2 (boot_o_2 P)).ins 3 (boot_o_3 P)).ins 4 (boot_o_4 P)).ins 5 (boot_o_5 P)).ins 6 (boot_o_6 P)).ins 7 (boot_o_7 P)).ins 8 (boot_o_8 P)).ins 9 (boot_o_9 P)).ins 10 (boot_o_10 P))
noncomputable abbrev rowN:String:="special-get-raises"
def goS (p:Program) (w:World) (t:Thread):TR:=goF p w 12000 t.cur (tree0 w.params) 11 181 t.code t.pos t.stack
def goZ (b:Bool) (w:World):TR:=goS pw (w.withFollow rowN b) (topStub pw)
end Z
namespace Z
theorem through_ne {cur:Sem PySem.Fin} {c:Code} {q:Pos} {st:List Frame} (h:∀f,cur≠.pure (.done f)):through ⟨cur,c,q,st⟩=false:=by
 unfold through
 rw[Bool.and_eq_false_iff]
 right
 cases cur with
 |pure a=>cases a with
  |done f=>exact absurd rfl (h f)
  |again c=>rfl
 |_=>rfl
noncomputable abbrev absS (T:BT) (n tk:Nat) (os:OsState):Shared:=⟨absHeap T n {},⟨[]⟩,{},tk,os⟩
noncomputable abbrev treeS (T:BT) (n tk:Nat) (os:OsState):SharedT:=⟨T,n,{},⟨[]⟩,{},tk,os⟩
section
variable {p:Program} {w:World}
theorem topRun_step {N:Nat} {T T':BT} {n n' tk tk':Nat} {os:OsState} {cur cur':Sem PySem.Fin} {c c':Code} {q q':Pos} {st st':List Frame} {r:Shared} (hne:∀f,cur≠.pure (.done f)) (hok:stepOk 11 (some (.ref 6)) ⟨cur,c,q,st⟩=true)
  (hs:stepT dz p w (treeS T n tk os) ⟨cur,c,q,st⟩=some (treeS T' n' tk' os,⟨cur',c',q',st'⟩)) (k:topRun treeTable p w 11 (some (.ref 6)) N (absS T' n' tk' os) ⟨cur',c',q',st'⟩=some r):
  topRun treeTable p w 11 (some (.ref 6)) (N+1) (absS T n tk os) ⟨cur,c,q,st⟩=some r:=by
 unfold topRun
 rw[through_ne hne,hok,dz_eq]
 have:step dz p w (absS T n tk os) ⟨cur,c,q,st⟩=.go (absS T' n' tk' os) ⟨cur',c',q',st'⟩:=stepT_spec hs
 show (match step dz p w (absS T n tk os) ⟨cur,c,q,st⟩ with| .go s' t'=>_| .halt _ _=>_)=_
 rw[this]
 exact k
theorem topRun_done {N:Nat} {T T':BT} {n n' tk tk':Nat} {os:OsState} {f:Flow} {cur':Sem PySem.Fin} {c c':Code} {q q':Pos} {fr:Frame} {st st':List Frame} {r:Shared}
  (hs:stepT dz p w (treeS T n tk os) ⟨.pure (.done f),c,q,fr::st⟩=some (treeS T' n' tk' os,⟨cur',c',q',st'⟩)) (k:topRun treeTable p w 11 (some (.ref 6)) N (absS T' n' tk' os) ⟨cur',c',q',st'⟩=some r):
  topRun treeTable p w 11 (some (.ref 6)) (N+1) (absS T n tk os) ⟨.pure (.done f),c,q,fr::st⟩=some r:=by
 unfold topRun
 rw[show through ⟨.pure (.done f),c,q,fr::st⟩=false from rfl,show stepOk 11 (some (.ref 6)) ⟨.pure (.done f),c,q,fr::st⟩=true from rfl,dz_eq]
 have:step dz p w (absS T n tk os) ⟨.pure (.done f),c,q,fr::st⟩=.go (absS T' n' tk' os) ⟨cur',c',q',st'⟩:=stepT_spec hs
 show (match step dz p w (absS T n tk os) ⟨.pure (.done f),c,q,fr::st⟩ with| .go s' t'=>_| .halt _ _=>_)=_
 rw[this]
 exact k
theorem boolRec_none {α:Type} {b:Bool} {x:Option α} {r:α} (h:(Bool.rec none x b:Option α)=some r):b=true∧x=some r:=by
 cases b with
 |true=>exact ⟨rfl,h⟩
 |false=>cases h
theorem other_of {ih:TI} {cur:Sem PySem.Fin} {T:BT} {n tk:Nat} {c:Code} {q:Pos} {st:List Frame} {r:BT×Nat×Nat} (h:mOther p w ih cur T n tk c q st=some r):
  stepOk 11 (some (.ref 6)) ⟨cur,c,q,st⟩=true∧∃T' n' life tk' os' cur' c' q' st',stepT dz p w ⟨T,n,{},⟨[]⟩,{},tk,{}⟩ ⟨cur,c,q,st⟩=some (⟨T',n',life,⟨[]⟩,{},tk',os'⟩,⟨cur',c',q',st'⟩)∧ih cur' T' n' tk' c' q' st'=some r:=by
 unfold mOther at h
 rw[← okZ_eq,←stepZ_eq] at h
 cases hk:stepOk 11 (some (.ref 6)) ⟨cur,c,q,st⟩ with
 |false=>rw[hk] at h;cases h
 |true=>
  rw[hk] at h
  refine ⟨rfl,?_⟩
  generalize stepT dz p w _ _=x at h ⊢
  cases x with
  |none=>exact nomatch (show none=some r from h)
  |some x=>
  obtain ⟨⟨T',n',life,⟨gl⟩,⟨d1,d2,d3,d4⟩,tk',os'⟩,⟨cur',c',q',st'⟩⟩:=x
  cases gl with
  |cons=>exact nomatch (show none=some r from h)
  |nil=>
  cases d1 with
  |succ=>exact nomatch (show none=some r from h)
  |zero=>
  cases d2 with
  |succ=>exact nomatch (show none=some r from h)
  |zero=>
  cases d3 with
  |succ=>exact nomatch (show none=some r from h)
  |zero=>
  cases d4 with
  |succ=>exact nomatch (show none=some r from h)
  |zero=>exact ⟨T',n',life,tk',os',cur',c',q',st',rfl,h⟩
theorem get_some {T:BT} {a:Nat} {k:Obj->TR} {r:BT×Nat×Nat} (h:getR T a k none=some r):∃o,T.get a=some o∧k o=some r:=by
 rw[getR_eq] at h
 cases e:T.get a with
 |none=>rw[e] at h;cases h
 |some o=>rw[e] at h;exact ⟨o,rfl,h⟩
theorem alive_some {o:Obj} {k:Obj->TR} {r:BT×Nat×Nat} (h:aliveR o k none=some r):∃o',alive o=some o'∧k o'=some r:=by
 rw[aliveR_eq] at h
 cases e:alive o with
 |none=>rw[e] at h;cases h
 |some o'=>rw[e] at h;exact ⟨o',rfl,h⟩
theorem goF_of {os:OsState}:∀(N:Nat) (cur:Sem PySem.Fin) {T:BT} {n tk:Nat} {c:Code} {q:Pos} {st:List Frame} {T':BT} {n' tk':Nat},goF p w N cur T n tk c q st=some (T',n',tk')->
  topRun treeTable p w 11 (some (.ref 6)) N (absS T n tk os) ⟨cur,c,q,st⟩=some (absS T' n' tk' os)
 |0,_,_,_,_,_,_,_,_,_,_,h=>nomatch (show none=some _ from h)
 |N+1,cur,T,n,tk,c,q,st,T',n',tk',h=>by
  induction cur using Sem.casesOn with
  |pure a=>
   induction a using PySem.Fin.casesOn with
   |done f=>
    induction st using List.casesOn with
    |nil=>
     obtain ⟨rfl,rfl,rfl⟩:T=T'∧n=n'∧tk=tk':=by
      have:some (T,n,tk)=some (T',n',tk'):=h
      simpa using this
     unfold topRun
     rfl
    |cons fr st=>
     induction fr using Frame.casesOn with
     |ret k hh g l c' q' kept=>exact topRun_done (T':=T) (n':=n) (tk':=tk) rfl (goF_of N _ (show goF p w N (k (.ok f)) T n tk c' q' st=_ from h))
     |gen=>exact nomatch (show none=some _ from h)
   |again c'=>
    obtain ⟨ok,T₁,n₁,life,tk₁,os₁,cur₁,c₁,q₁,st₁,e,h⟩:=other_of (p:=p) (w:=w) (ih:=goF p w N) (show mOther p w (goF p w N) (.pure (.again c')) T n tk c q st=_ from h)
    have e:some ((⟨T,n,{},⟨[]⟩,{},tk,{}⟩:SharedT),(⟨dz c',c',q,_⟩:Thread))=some (⟨T₁,n₁,life,⟨[]⟩,{},tk₁,os₁⟩,⟨cur₁,c₁,q₁,st₁⟩):=e
    obtain ⟨e1,e2⟩:=Prod.mk.inj (Option.some.inj e)
    obtain ⟨rfl,rfl,rfl,_,_,rfl,_⟩:=SharedT.mk.inj e1
    obtain ⟨rfl,rfl,rfl,rfl⟩:=Thread.mk.inj e2
    exact topRun_step (λf z=>by cases z) ok (T':=T) (n':=n) (tk':=tk) rfl (goF_of N _ h)
  |raise e=>
   induction st using List.casesOn with
   |nil=>exact nomatch (show none=some _ from h)
   |cons fr st=>
    induction fr using Frame.casesOn with
    |ret k hh g l c' q' kept=>exact topRun_step (λf z=>by cases z) rfl (T':=T) (n':=n) (tk':=tk) rfl (goF_of N _ (show goF p w N (k (.error e)) T n tk c' q' st=_ from h))
    |gen=>exact nomatch (show none=some _ from h)
  |rule t k=>exact topRun_step (λf z=>by cases z) rfl (T':=T) (n':=n) (tk':=tk) rfl (goF_of N _ (show goF p w N (k ()) T n tk c q st=_ from h))
  |«at» q' k=>exact topRun_step (λf z=>by cases z) rfl (T':=T) (n':=n) (tk':=tk) rfl (goF_of N _ (show goF p w N (k ()) T n tk c q' st=_ from h))
  |load a pt k=>
   obtain ⟨lt,h⟩:=boolRec_none (show (Bool.rec none _ (Nat.blt a n):TR)=_ from h)
   obtain ⟨o,g,h⟩:=get_some h
   obtain ⟨o',al,h⟩:=alive_some h
   exact topRun_step (λf z=>by cases z) rfl (T':=T) (n':=n) (tk':=tk) (by show (match Nat.blt a n with|true=>_|false=>_)=_;rw[lt];show (match T.get a with|some o=>_|none=>_)=_;rw[g];show (match alive o with|some o'=>_|none=>_)=_;rw[al]) (goF_of N _ h)
  |update a pt f k=>
   obtain ⟨lt,h⟩:=boolRec_none (show (Bool.rec none _ (and (Nat.blt a n) (or (Nat.ble 11 a) (or (Nat.beq a 3) (or (Nat.beq a 2) (Nat.beq a 6))))):TR)=_ from h)
   obtain ⟨o,g,h⟩:=get_some h
   obtain ⟨o',al,h⟩:=alive_some h
   rw[setR_eq] at h
   rw[Bool.and_eq_true] at lt
   have ok:stepOk 11 (some (.ref 6)) ⟨.update a pt f k,c,q,st⟩=true:=by
    show (true&&(Nat.ble 11 a||a==3||a==2||some (Value.ref 6)==some (Value.ref a)))=true
    simp only[Bool.or_eq_true] at lt
    rcases lt.2 with z|z|z|z
    · rw[z];rfl
    · rw[Nat.eq_of_beq_eq_true z];rfl
    · rw[Nat.eq_of_beq_eq_true z];rfl
    · rw[Nat.eq_of_beq_eq_true z];rfl
   exact topRun_step (λf z=>by cases z) ok (T':=T.set a f) (n':=n) (tk':=tk) (by show (match Nat.blt a n with|true=>_|false=>_)=_;rw[lt.1];show (match T.get a with|some o=>_|none=>_)=_;rw[g];show (match alive o with|some o'=>_|none=>_)=_;rw[al]) (goF_of N _ h)
  |alloc o k=>
   obtain ⟨o',g,h⟩:=get_some (show getR (insR T n o) n _ none=_ from h)
   rw[insR_eq] at g h
   exact topRun_step (λf z=>by cases z) rfl (T':=T.ins n o) (n':=n+1) (tk':=tk) (by show (match ((T.ins n o).get n).isSome with|true=>_|false=>_)=_;rw[g];rfl) (goF_of N _ h)
  |loadIfAlive a k=>
   have h:(Bool.rec (goF p w N (k none) T n tk c q st) (getR T a (λo=>aliveR o (λo=>goF p w N (k (some o)) T n tk c q st) (goF p w N (k none) T n tk c q st)) none) (Nat.blt a n):TR)=_:=h
   cases lt:Nat.blt a n with
   |false=>
    rw[lt] at h
    exact topRun_step (λf z=>by cases z) rfl (T':=T) (n':=n) (tk':=tk) (by show (match Nat.blt a n with|true=>_|false=>_)=_;rw[lt]) (goF_of N _ h)
   |true=>
    rw[lt] at h
    obtain ⟨o,g,h⟩:=get_some h
    rw[aliveR_eq] at h
    cases al:alive o with
    |none=>
     rw[al] at h
     exact topRun_step (λf z=>by cases z) rfl (T':=T) (n':=n) (tk':=tk) (by show (match Nat.blt a n with|true=>_|false=>_)=_;rw[lt];show (match T.get a with|some o=>_|none=>_)=_;rw[g];show some (_,(⟨k (alive o),_,_,_⟩:Thread))=_;rw[al]) (goF_of N _ h)
    |some o'=>
     rw[al] at h
     exact topRun_step (λf z=>by cases z) rfl (T':=T) (n':=n) (tk':=tk) (by show (match Nat.blt a n with|true=>_|false=>_)=_;rw[lt];show (match T.get a with|some o=>_|none=>_)=_;rw[g];show some (_,(⟨k (alive o),_,_,_⟩:Thread))=_;rw[al]) (goF_of N _ h)
  |point l k=>exact topRun_step (λf z=>by cases z) rfl (T':=T) (n':=n) (tk':=tk) rfl (goF_of N _ (show goF p w N (k ()) T n tk c q st=_ from h))
  |fresh k=>exact topRun_step (λf z=>by cases z) rfl (T':=T) (n':=n) (tk':=tk+1) rfl (goF_of N _ (show goF p w N (k tk) T n (tk+1) c q st=_ from h))
  |ask k=>exact topRun_step (λf z=>by cases z) rfl (T':=T) (n':=n) (tk':=tk) rfl (goF_of N _ (show goF p w N (k ⟨p,w.params⟩) T n tk c q st=_ from h))
  |call c' hh g l k=>exact topRun_step (λf z=>by cases z) rfl (T':=T) (n':=n) (tk':=tk) rfl (goF_of N _ (show goF p w N (dz c') T n tk c' q (.ret k hh g l c q (keptOf p w c' hh g l k c)::st)=_ from h))
  |handled o k=>
   obtain ⟨ok,T₁,n₁,life,tk₁,os₁,cur₁,c₁,q₁,st₁,e,h⟩:=other_of (p:=p) (w:=w) (ih:=goF p w N) (show mOther p w (goF p w N) (.handled o k) T n tk c q st=_ from h)
   have e:some ((⟨T,n,{},⟨[]⟩,{},tk,{}⟩:SharedT),(⟨_,c,q,st⟩:Thread))=some (⟨T₁,n₁,life,⟨[]⟩,{},tk₁,os₁⟩,⟨cur₁,c₁,q₁,st₁⟩):=e
   obtain ⟨e1,e2⟩:=Prod.mk.inj (Option.some.inj e)
   obtain ⟨rfl,rfl,rfl,_,_,rfl,_⟩:=SharedT.mk.inj e1
   obtain ⟨rfl,rfl,rfl,rfl⟩:=Thread.mk.inj e2
   exact topRun_step (λf z=>by cases z) ok (T':=T) (n':=n) (tk':=tk) rfl (goF_of N _ h)
  |stack k=>
   obtain ⟨ok,T₁,n₁,life,tk₁,os₁,cur₁,c₁,q₁,st₁,e,h⟩:=other_of (p:=p) (w:=w) (ih:=goF p w N) (show mOther p w (goF p w N) (.stack k) T n tk c q st=_ from h)
   have e:some ((⟨T,n,{},⟨[]⟩,{},tk,{}⟩:SharedT),(⟨_,c,q,st⟩:Thread))=some (⟨T₁,n₁,life,⟨[]⟩,{},tk₁,os₁⟩,⟨cur₁,c₁,q₁,st₁⟩):=e
   obtain ⟨e1,e2⟩:=Prod.mk.inj (Option.some.inj e)
   obtain ⟨rfl,rfl,rfl,_,_,rfl,_⟩:=SharedT.mk.inj e1
   obtain ⟨rfl,rfl,rfl,rfl⟩:=Thread.mk.inj e2
   exact topRun_step (λf z=>by cases z) ok (T':=T) (n':=n) (tk':=tk) rfl (goF_of N _ h)
  |thread k=>exact topRun_step (λf z=>by cases z) rfl (T':=T) (n':=n) (tk':=tk) rfl (goF_of N _ (show goF p w N (k 0) T n tk c q st=_ from h))
  |_=>exact nomatch (show none=some _ from h)
end
end Z
namespace Z
noncomputable abbrev mods:List Str:=importedModules pw.main.body
noncomputable def lawS:Stmt:=(pw.main.body[232]?).getD (.Pass {line:=0,col:=0,endLine:=0,endCol:=0})
noncomputable def qv:Program:={pw with main:={pw.main with body:=[lawS]}}
def seenZ:=@PySem.W.Fast.tw4187177175401517315
theorem seenZ_eq:@openSeen=seenZ:=PySem.W.Fast.te4187177175401517315
def lookZ (P:Params) (x:BT×Nat×Nat):=((staticsOk mods (boot_heap P) (absHeap x.1 x.2.1 {})&&namesBound pw (absHeap x.1 x.2.1 {})&&laidKept (boot_heap P) (absHeap x.1 x.2.1 {})),(λos=>seenZ qv Lo mods (λU=>true) true ⟨absHeap x.1 x.2.1 {},⟨[]⟩,{},x.2.2,os⟩),Ka.map x.1.get,Nat.ble 1641 x.2.1)
theorem headF:(λ(w:World)=>(goZ false w).map (lookZ (w.withFollow rowN false).params))=λw=>some (true,(λU=>openGood qv Lo),(Kf (w.withFollow rowN false).params).map (λp=>some p.2),true):=by kernel_rfl
theorem headT:(λ(w:World)=>(goZ true w).map (lookZ (w.withFollow rowN true).params))=λw=>some (true,(λU=>openGood qv Lo),(Kf (w.withFollow rowN true).params).map (λp=>some p.2),true):=by kernel_rfl
end Z
namespace Z
theorem head_b (b:Bool) (w:World):(goZ b w).map (lookZ (w.withFollow rowN b).params)=some (true,(λU=>openGood qv Lo),(Kf (w.withFollow rowN b).params).map (λp=>some p.2),true):=by
 cases b
 · exact congrFun headF w
 · exact congrFun headT w
noncomputable def live (o:Obj):Bool:=match o with
 |⟨_,_,.freed,_⟩=>false
 |_=>true
theorem alive_of {o:Obj} (h:live o=true):alive o=some o:=by
 obtain ⟨c,d,dt,sl⟩:=o
 cases dt<;>first|rfl|cases h
theorem Kf_live:(λP:Params=>(Kf P).all λp=>live p.2)=λU=>true:=by kernel_rfl
theorem Kf_keys:(λP:Params=>(Kf P).map (·.1))=λU=>Ka:=by kernel_rfl
theorem Ka_low:(Ka.all λa=>Nat.blt a 1641)=true:=by decide +kernel
theorem get_abs {T:BT} {n:Nat} {life:Life} (hn:1641≤n):∀(as:List Addr) (os:List Obj),(as.all λa=>Nat.blt a 1641)=true->(os.all live)=true->as.map T.get=os.map some->as.map (absHeap T n life).get?=os.map some
 |[],[],_,_,_=>rfl
 |[],_::_,_,_,h=>nomatch h
 |_::_,[],_,_,h=>nomatch h
 |a::as,o::os,h1,h2,h3=>by
  rw[List.all_cons,Bool.and_eq_true] at h1 h2
  rw[List.map_cons,List.map_cons] at h3
  injection h3 with h3 h4
  have lt:a<1641:=Nat.le_of_ble_eq_true h1.1
  rw[List.map_cons,List.map_cons,abs_get (Nat.lt_of_lt_of_le lt hn) h3,alive_of h2.1,get_abs hn as os h1.2 h2.2 h4]
theorem S0_abs:(λ(P:Params) (os:OsState)=>absS (tree0 P) 11 181 os)=λP os=>⟨boot_heap P,Array.mk [],boot_drawn,boot_toks,os⟩:=by kernel_rfl
theorem size0:(λP:Params=>((boot_heap P).isNs mainGlobals&&(Array.mk []:Array GenState).size==0,(boot_heap P).objs.size,(boot_heap P).nsMap mainGlobals "__annotations__"))=λU=>(true,11,some (.ref 6)):=by kernel_rfl
theorem open0:opening pw=plainProg pw.main.scope.names:=by kernel_rfl
theorem fence0:(λs:Shared=>fenceModules? pw s)=λs=>some s:=by kernel_rfl
theorem run_ok (w:World) (os:OsState):∃s₁,topRun treeTable pw w 11 (some (.ref 6)) 12000 ⟨boot_heap w.params,Array.mk [],boot_drawn,boot_toks,os⟩ (topStub pw)=some s₁∧
  (staticsOk mods (boot_heap w.params) s₁.heap&&namesBound pw s₁.heap&&gensDone s₁&&laidKept (boot_heap w.params) s₁.heap)=true∧
  openSeen qv Lo mods (λU=>true) true s₁=openGood qv Lo∧Ka.map s₁.heap.get?=(Kf w.params).map (λp=>some p.2):=by
 have e:=World.withFollow_self w rowN
 obtain ⟨⟨T,n,tk⟩,h,l⟩:=Option.map_eq_some_iff.mp (head_b (w.params.followText rowN) w)
 unfold goZ goS at h
 unfold lookZ at l
 rw[e] at h l
 have r:=goF_of (os:=os) 12000 (topStub pw).cur h
 rw[show absS (tree0 w.params) 11 181 os=_ from congrFun (congrFun S0_abs w.params) os] at r
 simp only[Prod.mk.injEq] at l
 obtain ⟨l1,l2,l3,l4⟩:=l
 refine ⟨_,r,?_,by rw[seenZ_eq];exact congrFun l2 os,?_⟩
 · simp only[Bool.and_eq_true] at l1 ⊢
   exact ⟨⟨⟨l1.1.1,l1.1.2⟩,rfl⟩,l1.2⟩
 · have hl:((Kf w.params).map (·.2)).all live=true:=by
    have:=congrFun Kf_live w.params
    simpa[List.all_map,Function.comp_def] using this
   have:=get_abs (T:=T) (n:=n) (life:={}) (Nat.le_of_ble_eq_true l4) Ka ((Kf w.params).map (·.2)) Ka_low hl (by rw[l3];simp[List.map_map,Function.comp_def])
   rw[List.map_map] at this
   exact this
theorem left0:LeftO pw qv Lo (λU=>true) (λs=>Ka.map s.heap.get?) (λw=>(Kf w.params).map λp=>some p.2) 12000:=λw=>by
 obtain ⟨⟨h,gs,d,k,os⟩,e,e'⟩:=Option.map_eq_some_iff.mp (boot_open (p:=pw) (N:=12000) open0 rfl (λs=>congrFun fence0 s) w)
 obtain ⟨rfl,rfl,rfl,rfl⟩:h=boot_heap w.params∧gs=Array.mk []∧d=boot_drawn∧k=boot_toks:=by simpa using e'
 obtain ⟨z1,z2,z3⟩:_∧_∧_:=by simpa only[Prod.mk.injEq] using congrFun size0 w.params
 obtain ⟨s₁,r,l1,l2,l3⟩:=run_ok w os
 have t:topFrom treeTable pw w 12000 ⟨boot_heap w.params,Array.mk [],boot_drawn,boot_toks,os⟩=some s₁:=by
  unfold topFrom
  dsimp only
  rw[z1,z2,z3,r]
  show (match staticsOk mods (boot_heap w.params) s₁.heap&&namesBound pw s₁.heap&&gensDone s₁&&laidKept (boot_heap w.params) s₁.heap with|true=>_|false=>_)=_
  rw[l1]
 unfold openEnds
 rw[e]
 show (topFrom treeTable pw w 12000 _).map _=_
 rw[t]
 exact congrArg some (Prod.ext l2 l3)
theorem chains0:(chainsOk qv&&opensWell pw&&(frees PySem.Challenge.rw_rh0220_01.row.toRowW&&PySem.Challenge.rw_rh0220_01.row.within.isEmpty))=true:=by decide +kernel
theorem row_holds (said:PySem.Challenge.rw_rh0220_01.row.wellSaid=true) {d:DefRec} {kwd:List (Str×Expr)} (hdef:defOf qv "law"=some (d,kwd)) (hp:pw.theDef "law"=some (d.params,d.body,d.scope)) (hk:kwWritten? d.params.kwonlyargs d.params.kw_defaults=some kwd)
  (hw:PySem.Challenge.rw_rh0220_01.row.toRowW.promised)
  (call:WalkO qv Lo (λU U=>True) (λw h=>(Kf w.params).In h) PySem.Challenge.rw_rh0220_01.row.toRowW d kwd λf vs=>PySem.call f vs):PySem.Challenge.rw_rh0220_01.row.Holds:=
 PySem.W.holds_open (q:=qv) (loose:=Lo) (Xt:=λU=>true) (XP:=λU U=>True) (Yf:=λs=>Ka.map s.heap.get?) (Ya:=λw=>(Kf w.params).map λp=>some p.2) (YP:=λw h=>(Kf w.params).In h) (N:=12000) (d:=d) (kwd:=kwd)
  (show LeftO PySem.Challenge.rw_rh0220_01.row.prog qv Lo (λU=>true) (λs=>Ka.map s.heap.get?) (λw=>(Kf w.params).map λp=>some p.2) 12000 from left0) (λw s y=>Frag.in_of (congrFun Kf_keys w.params).symm y) (λw h h' x k=>x.keeps k) (λU U=>trivial) (λU U U U U=>trivial) hdef hp hk (λU U=>recFacts_nil rfl) rfl said chains0 ⟨rfl,rfl,rfl,rfl,rfl,by decide +kernel⟩ hw call
end Z
inductive P where|h|o (p:P)|i (p:P)
def P.succ:P->P:=P.rec (.o .h) (λp U=>.i p) (λU q=>.o q)
def P.eqb (p:P):P->Bool:=P.rec (motive:=λU=>P->Bool) (λq=>P.rec true (λU U=>false) (λU U=>false) q) (λU ih q=>P.rec (motive:=λU=>Bool) false (λq U=>ih q) (λU U=>false) q) (λU ih q=>P.rec (motive:=λU=>Bool) false (λU U=>false) (λq U=>ih q) q) p
inductive AV where
 |none
 |bool (b:Bool)
 |nat (n:Nat)
 |neg (n:Nat)
 |sym (a k:Nat)
 |rng (lo hi:Nat)
 |any
 |str (c:Nat)
 |sany
 |byt (xs:AV)
 |tup (xs:AV)
 |lst (xs:AV)
 |dic (xs:AV)
 |loc (i:P)
 |nil
 |cons (h t:AV)
 |dcons (k v t:AV)
section
variable {β:Type}
def foldA (n:β) (c:AV->AV->β->β):AV->β:=
 AV.rec (motive:=λU=>β) n (λU=>n) (λU=>n) (λU=>n) (λU U=>n) (λU U=>n) n (λU=>n) n (λU U=>n) (λU U=>n) (λU U=>n) (λU U=>n) (λU=>n) n (λh t U r=>c h t r) (λU U U U U U=>n)
def foldD (n:β) (c:AV->AV->AV->β->β):AV->β:=
 AV.rec (motive:=λU=>β) n (λU=>n) (λU=>n) (λU=>n) (λU U=>n) (λU U=>n) n (λU=>n) n (λU U=>n) (λU U=>n) (λU U=>n) (λU U=>n) (λU=>n) n (λU U U U=>n) (λk v t U U r=>c k v t r)
end
def isTup (x:AV) (k:AV->Bool):Bool:=AV.rec (motive:=λU=>(AV->Bool)->Bool) (λU=>false) (λU U=>false) (λU U=>false) (λU U=>false) (λU U U=>false) (λU U U=>false) (λU=>false) (λU U=>false) (λU=>false) (λU U U=>false) (λxs U k=>k xs) (λU U U=>false) (λU U U=>false) (λU U=>false) (λU=>false) (λU U U U U=>false) (λU U U U U U U=>false) x k
def isCons (x:AV) (k:AV->AV->Bool):Bool:=AV.rec (motive:=λU=>(AV->AV->Bool)->Bool) (λU=>false) (λU U=>false) (λU U=>false) (λU U=>false) (λU U U=>false) (λU U U=>false) (λU=>false) (λU U=>false) (λU=>false) (λU U U=>false) (λU U U=>false) (λU U U=>false) (λU U U=>false) (λU U=>false) (λU=>false) (λh t_ U U k=>k h t_) (λU U U U U U U=>false) x k
def isNil (x:AV) (k:Bool):Bool:=AV.rec (motive:=λU=>Bool->Bool) (λU=>false) (λU U=>false) (λU U=>false) (λU U=>false) (λU U U=>false) (λU U U=>false) (λU=>false) (λU U=>false) (λU=>false) (λU U U=>false) (λU U U=>false) (λU U U=>false) (λU U U=>false) (λU U=>false) (λk=>k) (λU U U U U=>false) (λU U U U U U U=>false) x k
def isNat (x:AV) (k:Nat->Bool):Bool:=AV.rec (motive:=λU=>(Nat->Bool)->Bool) (λU=>false) (λU U=>false) (λn k=>k n) (λU U=>false) (λU U U=>false) (λU U U=>false) (λU=>false) (λU U=>false) (λU=>false) (λU U U=>false) (λU U U=>false) (λU U U=>false) (λU U U=>false) (λU U=>false) (λU=>false) (λU U U U U=>false) (λU U U U U U U=>false) x k
def isLoc (x:AV) (k:P->Bool):Bool:=AV.rec (motive:=λU=>(P->Bool)->Bool) (λU=>false) (λU U=>false) (λU U=>false) (λU U=>false) (λU U U=>false) (λU U U=>false) (λU=>false) (λU U=>false) (λU=>false) (λU U U=>false) (λU U U=>false) (λU U U=>false) (λU U U=>false) (λi k=>k i) (λU=>false) (λU U U U U=>false) (λU U U U U U U=>false) x k
inductive AObj where
 |list (xs:AV)
 |dict (ep:Nat) (kvs:AV)
 |inst (c:Nat) (kvs:AV)
inductive HT where
 |lf
 |nd (l r:HT)
 |ob (v:AObj) (l r:HT)
def isList (x:AObj) (k:AV->Bool):Bool:=AObj.rec (motive:=λU=>Bool) k (λU U=>false) (λU U=>false) x
def isDict (x:AObj) (k:Nat->AV->Bool):Bool:=AObj.rec (motive:=λU=>Bool) (λU=>false) k (λU U=>false) x
def isInst (x:AObj) (k:Nat->AV->Bool):Bool:=AObj.rec (motive:=λU=>Bool) (λU=>false) (λU U=>false) k x
def HT.get (i:P):HT->(AObj->Bool)->Bool:=
 P.rec (motive:=λU=>HT->(AObj->Bool)->Bool)
  (λt k=>HT.rec (motive:=λU=>Bool) false (λU U U U=>false) (λv U U U U=>k v) t)
  (λU ih t k=>HT.rec (motive:=λU=>Bool) false (λl U U U=>ih l k) (λU l U U U=>ih l k) t)
  (λU ih t k=>HT.rec (motive:=λU=>Bool) false (λU r U U=>ih r k) (λU U r U U=>ih r k) t) i
def HT.put (i:P) (v:AObj):HT->HT:=
 P.rec (motive:=λU=>HT->HT)
  (λt=>HT.rec (motive:=λU=>HT) (.ob v .lf .lf) (λl r U U=>.ob v l r) (λU l r U U=>.ob v l r) t)
  (λU ih t=>HT.rec (motive:=λU=>HT) (.nd (ih .lf) .lf) (λl r U U=>.nd (ih l) r) (λw l r U U=>.ob w (ih l) r) t)
  (λU ih t=>HT.rec (motive:=λU=>HT) (.nd .lf (ih .lf)) (λl r U U=>.nd l (ih r)) (λw l r U U=>.ob w l (ih r)) t) i
inductive VL where
 |nil
 |cons (x:Nat) (v:AV) (l:VL)
def VL.get (x:Nat) (l:VL) (k:AV->Bool):Bool:=VL.rec (motive:=λU=>Bool) false (λy v U ih=>Bool.rec ih (k v) (Nat.beq y x)) l
def VL.set (x:Nat) (w:AV) (l:VL):VL:=VL.rec (motive:=λU=>VL) (.cons x w .nil) (λy v l ih=>Bool.rec (.cons y v ih) (.cons y w l) (Nat.beq y x)) l
inductive BL where
 |nil
 |cons (a b lo hi:Nat) (l:BL)
def BL.get (a b:Nat) (l:BL) (k:Nat->Nat->Bool) (d:Bool):Bool:=BL.rec (motive:=λU=>Bool) d (λa' b' lo hi U ih=>Bool.rec ih (k lo hi) (and (Nat.beq a' a) (Nat.beq b' b))) l
structure St where
 vars:VL
 cvars:VL
 hp:HT
 nx:P
 bd:BL
abbrev K (α:Type):=α->St->Bool
abbrev C:=St->K AV->Bool
abbrev T:=St->(St->Bool)->(St->Bool)->Bool
abbrev S:=St->(St->Bool)->(AV->St->Bool)->(St->Bool)->Bool
abbrev F:=AV->St->K AV->Bool
abbrev A:=AV->St->(St->Bool)->Bool
def ite (c:Bool) (t f:Bool):Bool:=Bool.rec f t c
def wi (x:Nat) (y:Nat) (t f:Bool):Bool:=Bool.rec f t (Nat.beq x y)
def leS (bd:BL) (a k b m:Nat) (t f:Bool):Bool:=
 ite (Nat.beq a b) (ite (Nat.ble k m) t f)
  (BL.get a b bd (λlo hi=>ite (Nat.ble (Nat.add hi k) m) t (ite (Nat.ble (Nat.add lo k) m) (and t f) f))
    (BL.get b a bd (λlo hi=>ite (Nat.ble k (Nat.add lo m)) t (ite (Nat.ble k (Nat.add hi m)) (and t f) f)) (and t f)))
def eqS (bd:BL) (a k b m:Nat) (t f:Bool):Bool:=
 ite (Nat.beq a b) (ite (Nat.beq k m) t f)
  (BL.get a b bd (λlo hi=>ite (and (Nat.ble (Nat.add lo k) m) (Nat.ble m (Nat.add hi k))) (and t f) f)
    (BL.get b a bd (λlo hi=>ite (and (Nat.ble (Nat.add lo m) k) (Nat.ble k (Nat.add hi m))) (and t f) f) (and t f)))
def asNum (x:AV) (s:Nat->Nat->Bool) (ng:Nat->Bool) (r:Nat->Nat->Bool) (u d:Bool):Bool:=
 AV.rec (motive:=λU=>(Nat->Nat->Bool)->(Nat->Bool)->(Nat->Nat->Bool)->Bool->Bool->Bool) (λU U U U d=>d) (λU U U U U U=>false) (λn s U U U U=>s 0 n) (λn U ng U U U=>ng n) (λa k_ s U U U U=>s a k_) (λlo hi U U r U U=>r lo hi) (λU U U u U=>u) (λU U U U U d=>d) (λU U U U d=>d) (λU U U U U U d=>d) (λU U U U U U d=>d) (λU U U U U U d=>d) (λU U U U U U d=>d) (λU U U U U d=>d) (λU U U U d=>d) (λU U U U U U U U d=>d) (λU U U U U U U U U U d=>d) x s ng r u d
def leG (bd:BL) (x y:AV) (t f:Bool):Bool:=
 asNum x
  (λa k=>asNum y (λb m=>leS bd a k b m t f) (λU=>ite (Nat.beq a 0) f (and t f)) (λlo hi=>leS bd a k 0 lo t (leS bd a k 0 hi (and t f) f)) (and t f) false)
  (λk=>asNum y (λb U=>ite (Nat.beq b 0) t (and t f)) (λm=>ite (Nat.ble m k) t f) (λU U=>t) (and t f) false)
  (λlo hi=>asNum y (λb m=>leS bd 0 hi b m t (leS bd 0 lo b m (and t f) f)) (λU=>f) (λU U=>and t f) (and t f) false)
  (asNum y (λU U=>and t f) (λU=>and t f) (λU U=>and t f) (and t f) false)
  false
def leV (bd:BL) (x y:AV) (t f:Bool):Bool:=
 AV.rec (motive:=λU=>AV->BL->Bool->Bool->Bool) (λy bd t f=>leG bd .none y t f) (λb y bd t f=>leG bd (.bool b) y t f) (λn y bd t f=>AV.rec (motive:=λU=>Nat->BL->Bool->Bool->Bool) (λn bd t f=>leG bd (.nat n) .none t f) (λb n bd t f=>leG bd (.nat n) (.bool b) t f) (λm n U t f=>Bool.rec f t (Nat.ble n m)) (λm n bd t f=>leG bd (.nat n) (.neg m) t f) (λa k_ n bd t f=>leG bd (.nat n) (.sym a k_) t f) (λlo hi n bd t f=>leG bd (.nat n) (.rng lo hi) t f) (λn bd t f=>leG bd (.nat n) .any t f) (λc n bd t f=>leG bd (.nat n) (.str c) t f) (λn bd t f=>leG bd (.nat n) .sany t f) (λxs U n bd t f=>leG bd (.nat n) (.byt xs) t f) (λxs U n bd t f=>leG bd (.nat n) (.tup xs) t f) (λxs U n bd t f=>leG bd (.nat n) (.lst xs) t f) (λxs U n bd t f=>leG bd (.nat n) (.dic xs) t f) (λi n bd t f=>leG bd (.nat n) (.loc i) t f) (λn bd t f=>leG bd (.nat n) .nil t f) (λh t_ U U n bd t f=>leG bd (.nat n) (.cons h t_) t f) (λq_ v_ t_ U U U n bd t f=>leG bd (.nat n) (.dcons q_ v_ t_) t f) y n bd t f) (λn y bd t f=>leG bd (.neg n) y t f) (λa k_ y bd t f=>leG bd (.sym a k_) y t f) (λlo hi y bd t f=>leG bd (.rng lo hi) y t f) (λy bd t f=>leG bd .any y t f) (λc y bd t f=>leG bd (.str c) y t f) (λy bd t f=>leG bd .sany y t f) (λxs U y bd t f=>leG bd (.byt xs) y t f) (λxs U y bd t f=>leG bd (.tup xs) y t f) (λxs U y bd t f=>leG bd (.lst xs) y t f) (λxs U y bd t f=>leG bd (.dic xs) y t f) (λi y bd t f=>leG bd (.loc i) y t f) (λy bd t f=>leG bd .nil y t f) (λh t_ U U y bd t f=>leG bd (.cons h t_) y t f) (λq_ v_ t_ U U U y bd t f=>leG bd (.dcons q_ v_ t_) y t f) x y bd t f
def eqNum (bd:BL) (x:AV) (a k:Nat) (t f:Bool):Bool:=
 asNum x (λb m=>eqS bd a k b m t f) (λU=>ite (Nat.beq a 0) f (and t f)) (λlo hi=>leS bd 0 lo a k (leS bd a k 0 hi (and t f) f) f) (and t f) f
def eqX:AV->BL->AV->Bool->Bool->Bool:=
 AV.rec (motive:=λU=>BL->AV->Bool->Bool->Bool)
  (λU y t f=>AV.rec (motive:=λU=>Bool->Bool->Bool) (λt U=>t) (λU U f=>f) (λU U f=>f) (λU U f=>f) (λU U U f=>f) (λU U U f=>f) (λU f=>f) (λU U f=>f) (λU f=>f) (λU U U f=>f) (λU U U f=>f) (λU U U f=>f) (λU U U f=>f) (λU U f=>f) (λU U=>false) (λU U U U U U=>false) (λU U U U U U U U=>false) y t f)
  (λb U y t f=>AV.rec (motive:=λU=>Bool->Bool->Bool->Bool) (λU U f=>f) (λc b t f=>ite (Bool.rec (not c) c b) t f) (λU U U U=>false) (λU U U U=>false) (λU U U U U=>false) (λU U U U U=>false) (λU U U=>false) (λU U U f=>f) (λU U f=>f) (λU U U U f=>f) (λU U U U f=>f) (λU U U U f=>f) (λU U U U f=>f) (λU U U f=>f) (λU U U=>false) (λU U U U U U U=>false) (λU U U U U U U U U=>false) y b t f)
  (λn bd y t f=>AV.rec (motive:=λU=>Nat->BL->Bool->Bool->Bool) (λU U U f=>f) (λU U U U U=>false) (λm n U t f=>Bool.rec f t (Nat.beq n m)) (λU U U U f=>f) (λa k_ n bd t f=>eqS bd 0 n a k_ t f) (λlo hi n bd t f=>leS bd 0 lo 0 n (leS bd 0 n 0 hi (and t f) f) f) (λU U t f=>and t f) (λU U U U f=>f) (λU U U f=>f) (λU U U U U f=>f) (λU U U U U f=>f) (λU U U U U f=>f) (λU U U U U f=>f) (λU U U U f=>f) (λU U U f=>f) (λU U U U U U U f=>f) (λU U U U U U U U U f=>f) y n bd t f)
  (λn U y t f=>asNum y (λa U=>ite (Nat.beq a 0) f (and t f)) (λm=>ite (Nat.beq m n) t f) (λU U=>f) (and t f) f)
  (λa k bd y t f=>eqNum bd y a k t f)
  (λlo hi bd y t f=>asNum y (λa k=>leS bd 0 lo a k (leS bd a k 0 hi (and t f) f) f) (λU=>f) (λU U=>and t f) (and t f) f)
  (λU y t f=>asNum y (λU U=>and t f) (λU=>and t f) (λU U=>and t f) (and t f) f)
  (λc U y t f=>AV.rec (motive:=λU=>Nat->Bool->Bool->Bool) (λU U f=>f) (λU U U f=>f) (λU U U f=>f) (λU U U f=>f) (λU U U U f=>f) (λU U U U f=>f) (λU U f=>f) (λd c t f=>Bool.rec f t (Nat.beq c d)) (λU t f=>and t f) (λU U U U f=>f) (λU U U U f=>f) (λU U U U f=>f) (λU U U U f=>f) (λU U U f=>f) (λU U U=>false) (λU U U U U U U=>false) (λU U U U U U U U U=>false) y c t f)
  (λU U U U=>false)
  (λU U U U U U=>false)
  (λU ih bd y t f=>AV.rec (motive:=λU=>(BL->AV->Bool->Bool->Bool)->BL->Bool->Bool->Bool) (λU U U f=>f) (λU U U U f=>f) (λU U U U f=>f) (λU U U U f=>f) (λU U U U U f=>f) (λU U U U U f=>f) (λU U U f=>f) (λU U U U f=>f) (λU U U f=>f) (λU U U U U f=>f) (λys U ih bd t f=>ih bd ys t f) (λU U U U U f=>f) (λU U U U U f=>f) (λU U U U f=>f) (λU U U U=>false) (λU U U U U U U U=>false) (λU U U U U U U U U U=>false) y ih bd t f)
  (λU ih bd y t f=>AV.rec (motive:=λU=>(BL->AV->Bool->Bool->Bool)->BL->Bool->Bool->Bool) (λU U U f=>f) (λU U U U f=>f) (λU U U U f=>f) (λU U U U f=>f) (λU U U U U f=>f) (λU U U U U f=>f) (λU U U f=>f) (λU U U U f=>f) (λU U U f=>f) (λU U U U U f=>f) (λU U U U U f=>f) (λys U ih bd t f=>ih bd ys t f) (λU U U U U f=>f) (λU U U U U=>false) (λU U U U=>false) (λU U U U U U U U=>false) (λU U U U U U U U U U=>false) y ih bd t f)
  (λU U U U U U=>false)
  (λU U U U U=>false)
  (λU y t f=>AV.rec (motive:=λU=>Bool->Bool->Bool) (λU U=>false) (λU U U=>false) (λU U U=>false) (λU U U=>false) (λU U U U=>false) (λU U U U=>false) (λU U=>false) (λU U U=>false) (λU U=>false) (λU U U U=>false) (λU U U U=>false) (λU U U U=>false) (λU U U U=>false) (λU U U=>false) (λt U=>t) (λU U U U U f=>f) (λU U U U U U U U=>false) y t f)
  (λU U ih1 ih2 bd y t f=>AV.rec (motive:=λU=>(BL->AV->Bool->Bool->Bool)->(BL->AV->Bool->Bool->Bool)->BL->Bool->Bool->Bool) (λU U U U U=>false) (λU U U U U U=>false) (λU U U U U U=>false) (λU U U U U U=>false) (λU U U U U U U=>false) (λU U U U U U U=>false) (λU U U U U=>false) (λU U U U U U=>false) (λU U U U U=>false) (λU U U U U U U=>false) (λU U U U U U U=>false) (λU U U U U U U=>false) (λU U U U U U U=>false) (λU U U U U U=>false) (λU U U U f=>f) (λh' t' U U ih1 ih2 bd t f=>ih1 bd h' (ih2 bd t' t f) f) (λU U U U U U U U U U U=>false) y ih1 ih2 bd t f)
  (λU U U U U U U U U U=>false)
def eqV (bd:BL) (x y:AV) (t f:Bool):Bool:=eqX x bd y t f
def ltV (bd:BL) (x:AV):AV->Bool->Bool->Bool:=
 AV.rec (motive:=λU=>AV->Bool->Bool->Bool)
  (λU U U=>false) (λU U U U=>false)
  (λn y t f=>leV bd y (.nat n) f t)
  (λn y t f=>leV bd y (.neg n) f t)
  (λa k y t f=>leV bd y (.sym a k) f t)
  (λa k y t f=>leV bd y (.rng a k) f t)
  (λy t f=>leV bd y .any f t)
  (λU U U U=>false) (λU U U=>false) (λU U U U U=>false)
  (λU ih y t f=>isTup y λys=>ih ys t f)
  (λU U U U U=>false) (λU U U U U=>false) (λU U U U=>false)
  (λy t f=>AV.rec (motive:=λU=>Bool->Bool->Bool) (λU U=>false) (λU U U=>false) (λU U U=>false) (λU U U=>false) (λU U U U=>false) (λU U U U=>false) (λU U=>false) (λU U U=>false) (λU U=>false) (λU U U U=>false) (λU U U U=>false) (λU U U U=>false) (λU U U U=>false) (λU U U=>false) (λU f=>f) (λU U U U t U=>t) (λU U U U U U U U=>false) y t f)
  (λh U ih1 ih2 y t f=>AV.rec (motive:=λU=>BL->AV->(AV->Bool->Bool->Bool)->(AV->Bool->Bool->Bool)->Bool->Bool->Bool) (λU U U U U U=>false) (λU U U U U U U=>false) (λU U U U U U U=>false) (λU U U U U U U=>false) (λU U U U U U U U=>false) (λU U U U U U U U=>false) (λU U U U U U=>false) (λU U U U U U U=>false) (λU U U U U U=>false) (λU U U U U U U U=>false) (λU U U U U U U U=>false) (λU U U U U U U U=>false) (λU U U U U U U U=>false) (λU U U U U U U=>false) (λU U U U U f=>f) (λh' t' U U bd h ih1 ih2 t f=>eqV bd h h' (ih2 t' t f) (ih1 h' t f)) (λU U U U U U U U U U U U=>false) y bd h ih1 ih2 t f)
  (λU U U U U U U U U=>false) x
def ok4 (n:Nat) (k:Bool):Bool:=ite (Nat.ble n 10000) k false
def keyA (x:AV):Nat->Bool:=
 AV.rec (motive:=λU=>Nat->Bool) (λU=>false) (λU U=>false) (λU U=>true) (λU U=>true) (λU U U=>true) (λU U U=>true) (λU=>true) (λU U=>true) (λU=>false) (λU U U=>false)
  (λU ih n=>Nat.rec false (λm U=>ih m) n) (λU U U=>false) (λU U U=>false) (λU U=>false) (λU=>true) (λU U ih1 ih2 n=>and (ih1 n) (ih2 n)) (λU U U U U U U=>false) x
def findG (bd:BL) (q:AV) (kvs:AV) (k:AV->Bool) (d:Bool):Bool:=foldD d (λa v U ih=>eqX a bd q (k v) ih) kvs
def strE (a:AV) (c:Nat) (r ih:Bool):Bool:=AV.rec (motive:=λU=>Nat->Bool->Bool->Bool) (λU U ih=>ih) (λU U U ih=>ih) (λU U U ih=>ih) (λU U U ih=>ih) (λU U U U ih=>ih) (λU U U U ih=>ih) (λU U ih=>ih) (λd c r ih=>Bool.rec ih r (Nat.beq d c)) (λU U U=>false) (λU U U U U=>false) (λU U U U ih=>ih) (λU U U U ih=>ih) (λU U U U U=>false) (λU U U U=>false) (λU U U=>false) (λU U U U U U U=>false) (λU U U U U U U U U=>false) a c r ih
def findD (bd:BL) (q:AV) (kvs:AV) (k:AV->Bool) (d:Bool):Bool:=AV.rec (motive:=λU=>BL->AV->(AV->Bool)->Bool->Bool) (λbd kvs k d=>findG bd .none kvs k d) (λb bd kvs k d=>findG bd (.bool b) kvs k d) (λn bd kvs k d=>findG bd (.nat n) kvs k d) (λn bd kvs k d=>findG bd (.neg n) kvs k d) (λa k_ bd kvs k d=>findG bd (.sym a k_) kvs k d) (λlo hi bd kvs k d=>findG bd (.rng lo hi) kvs k d) (λbd kvs k d=>findG bd .any kvs k d) (λc U kvs k d=>foldD d (λa v U ih=>strE a c (k v) ih) kvs) (λbd kvs k d=>findG bd .sany kvs k d) (λxs U bd kvs k d=>findG bd (.byt xs) kvs k d) (λxs U bd kvs k d=>findG bd (.tup xs) kvs k d) (λxs U bd kvs k d=>findG bd (.lst xs) kvs k d) (λxs U bd kvs k d=>findG bd (.dic xs) kvs k d) (λi bd kvs k d=>findG bd (.loc i) kvs k d) (λbd kvs k d=>findG bd .nil kvs k d) (λh t_ U U bd kvs k d=>findG bd (.cons h t_) kvs k d) (λq_ v_ t_ U U U bd kvs k d=>findG bd (.dcons q_ v_ t_) kvs k d) q bd kvs k d
def putD (bd:BL) (q w:AV):AV->(AV->Nat->Bool)->Bool:=
 foldD (λk=>k (.dcons q w .nil) 1) (λa v t ih k=>eqV bd a q (k (.dcons a w t) 0) (ih λr n=>k (.dcons a v r) n))
def keysD:AV->AV:=foldD .nil (λa U U r=>.cons a r)
def apA (ys:AV):AV->AV:=foldA ys (λh U r=>.cons h r)
def apD (ys:AV):AV->AV:=foldD ys (λa v U r=>.dcons a v r)
def lenA:AV->Nat:=foldA 0 (λU U n=>Nat.succ n)
def revA (xs:AV):AV:=foldA (β:=AV->AV) (λa=>a) (λh U f a=>f (.cons h a)) xs .nil
def lenD:AV->Nat:=foldD 0 (λU U U n=>Nat.succ n)
def nthA (xs:AV):Nat->(AV->Bool)->Bool:=foldA (λU U=>false) (λh U ih n k=>Nat.rec (k h) (λm U=>ih m k) n) xs
def inA (bd:BL) (x:AV) (t f:Bool):AV->Bool:=foldA f (λh U ih=>eqV bd h x t ih)
inductive NL where|nil|cons (x:Nat) (l:NL)
def isIntV (x:AV):Bool:=asNum x (λU U=>true) (λU=>true) (λU U=>true) true false
inductive TT where
 |ret (l:NL)
 |ask (i j:Nat) (t f:TT)
def pickA (xs:AV):NL->(AV->Bool)->Bool:=NL.rec (motive:=λU=>(AV->Bool)->Bool) (λk=>k .nil) (λi U ih k=>nthA xs i λx=>ih λr=>k (.cons x r))
def runT (bd:BL) (xs:AV) (k:AV->Bool) (t:TT):Bool:=TT.rec (motive:=λU=>Bool) (λl=>pickA xs l k) (λi j U U a b=>nthA xs i λx=>nthA xs j λy=>ltV bd x y a b) t
def intsA:AV->Bool:=foldA true (λh U r=>and (isIntV h) r)
def tupsA:AV->Bool:=foldA true (λh U r=>and (isTup h λxs=>isCons xs λy ys=>and (isIntV y) (intsA ys)) r)
noncomputable def tree2:TT:=(.ask 1 0 (.ret (.cons 1 (.cons 0 .nil))) (.ret (.cons 0 (.cons 1 .nil))))
noncomputable def tree3:TT:=(.ask 1 0 (.ask 2 1 (.ret (.cons 2 (.cons 1 (.cons 0 .nil)))) (.ask 1 2 (.ask 2 0 (.ask 2 0 (.ask 2 1 (.ret (.cons 2 (.cons 1 (.cons 0 .nil)))) (.ret (.cons 1 (.cons 2 (.cons 0 .nil))))) (.ret (.cons 1 (.cons 0 (.cons 2 .nil))))) (.ret (.cons 1 (.cons 0 (.cons 2 .nil))))) (.ret (.cons 1 (.cons 2 (.cons 0 .nil)))))) (.ask 2 1 (.ask 0 1 (.ask 2 1 (.ask 2 0 (.ret (.cons 2 (.cons 0 (.cons 1 .nil)))) (.ret (.cons 0 (.cons 2 (.cons 1 .nil))))) (.ret (.cons 0 (.cons 1 (.cons 2 .nil))))) (.ret (.cons 2 (.cons 0 (.cons 1 .nil))))) (.ret (.cons 0 (.cons 1 (.cons 2 .nil))))))
noncomputable def treeN (n:Nat) (d:Bool) (f:TT->Bool):Bool:=Nat.rec d (λm U=>Nat.rec d (λm U=>Nat.rec (f tree2) (λm U=>Nat.rec (f tree3) (λU U=>false) m) m) m) n
def sortA (bd:BL) (xs:AV) (k:AV->Bool):Bool:=and (Bool.rec (tupsA xs) true (intsA xs)) (treeN (lenA xs) (k xs) (runT bd xs k))
def takeA (xs:AV):Nat->AV:=foldA (λU=>.nil) (λh U ih n=>Nat.rec .nil (λm U=>.cons h (ih m)) n) xs
def dropA (xs:AV):Nat->AV:=foldA (λU=>.nil) (λh t ih n=>Nat.rec (.cons h t) (λm U=>ih m) n) xs
def setA (v:AV) (xs:AV):Nat->(AV->Bool)->Bool:=foldA (λU U=>false) (λh t ih n k=>Nat.rec (k (.cons v t)) (λm U=>ih m λr=>k (.cons h r)) n) xs
noncomputable def upN (n a:Nat):AV:=Nat.rec (motive:=λU=>Nat->AV) (λU=>.nil) (λU ih a=>.cons (.nat a) (ih (Nat.succ a))) n a
noncomputable def downN (n:Nat):AV:=Nat.rec (motive:=λU=>AV) .nil (λm ih=>.cons (.nat m) ih) n
def items (x:AV) (s:St) (k:AV->Bool):Bool:=
 AV.rec (motive:=λU=>St->(AV->Bool)->Bool) (λU U=>false) (λU U U=>false) (λU U U=>false) (λU U U=>false) (λU U U U=>false) (λU U U U=>false) (λU U=>false) (λU U U=>false) (λU U=>false) (λxs U U k=>k xs) (λxs U U k=>k xs) (λxs U U k=>k xs) (λxs U U k=>k (keysD xs)) (λi s k=>HT.get i s.hp λo=>AObj.rec (motive:=λU=>Bool) k (λU xs=>k (keysD xs)) (λU U=>false) o) (λU U=>false) (λU U U U U U=>false) (λU U U U U U U U=>false) x s k
def itemsL (x:AV) (s:St) (k:AV->Bool):Bool:=
 AV.rec (motive:=λU=>St->(AV->Bool)->Bool) (λU U=>false) (λU U U=>false) (λU U U=>false) (λU U U=>false) (λU U U U=>false) (λU U U U=>false) (λU U=>false) (λU U U=>false) (λU U=>false) (λU U U U=>false) (λxs U U k=>k xs) (λxs U U k=>k xs) (λxs U U k=>k (keysD xs)) (λi s k=>HT.get i s.hp λo=>AObj.rec (motive:=λU=>Bool) k (λU xs=>k (keysD xs)) (λU U=>false) o) (λU U=>false) (λU U U U U U=>false) (λU U U U U U U U=>false) x s k
def view (x:AV) (s:St) (k:AV->Bool):Bool:=
 AV.rec (motive:=λU=>St->(AV->Bool)->Bool) (λU k=>k .none) (λb U k=>k (.bool b)) (λn U k=>k (.nat n)) (λn U k=>k (.neg n)) (λa k_ U k=>k (.sym a k_)) (λlo hi U k=>k (.rng lo hi)) (λU k=>k .any) (λc U k=>k (.str c)) (λU k=>k .sany) (λxs U U k=>k (.byt xs)) (λxs U U k=>k (.tup xs)) (λxs U U k=>k (.lst xs)) (λxs U U k=>k (.dic xs)) (λi s k=>HT.get i s.hp λo=>AObj.rec (motive:=λU=>Bool) (λxs=>k (.lst xs)) (λU xs=>k (.dic xs)) (λU U=>false) o) (λU k=>k .nil) (λh t_ U U U k=>k (.cons h t_)) (λq_ v_ t_ U U U U k=>k (.dcons q_ v_ t_)) x s k
def isLst (y:AV) (k:AV->Bool):Bool:=AV.rec (motive:=λU=>Bool) false (λU=>false) (λU=>false) (λU=>false) (λU U=>false) (λU U=>false) false (λU=>false) false (λU U=>false) (λU U=>false) (λys U=>k ys) (λU U=>false) (λU=>false) false (λU U U U=>false) (λU U U U U U=>false) y
def lsts (x:AV) (s:St) (k:AV->Bool):Bool:=view x s λy=>isLst y k
def dicts (x:AV) (s:St) (k:AV->Bool):Bool:=
 AV.rec (motive:=λU=>St->(AV->Bool)->Bool) (λU U=>false) (λU U U=>false) (λU U U=>false) (λU U U=>false) (λU U U U=>false) (λU U U U=>false) (λU U=>false) (λU U U=>false) (λU U=>false) (λU U U U=>false) (λU U U U=>false) (λU U U U=>false) (λxs U U k=>k xs) (λi s k=>HT.get i s.hp λo=>isDict o λU xs=>k xs) (λU U=>false) (λU U U U U U=>false) (λU U U U U U U U=>false) x s k
def setO (i:P) (o:AObj) (s:St):St:=⟨s.vars,s.cvars,HT.put i o s.hp,s.nx,s.bd⟩
def newO (o:AObj) (s:St) (k:K AV):Bool:=k (.loc s.nx) ⟨s.vars,s.cvars,HT.put s.nx o s.hp,P.succ s.nx,s.bd⟩
noncomputable def cst (v:AV):C:=λs k=>k v s
def var (x:Nat):C:=λs k=>VL.get x s.vars λv=>k v s
def cvar (x:Nat):C:=λs k=>VL.get x s.cvars λv=>k v s
noncomputable def badC:C:=λU U=>false
abbrev Op:=AV->AV->St->K AV->Bool
noncomputable def bin (f:Op) (a b:C):C:=λs k=>a s λx s=>b s λy s=>f x y s k
abbrev Cm:=AV->AV->St->Bool->Bool->Bool
noncomputable def cmp (f:Cm) (a b:C):T:=λs t e=>a s λx s=>b s λy s=>f x y s (t s) (e s)
noncomputable def cmp2 (f g:Cm) (a b c:C):T:=λs t e=>a s λx s=>b s λy s=>f x y s (c s λz s=>g y z s (t s) (e s)) (e s)
noncomputable def anT (a b:T):T:=λs t e=>a s (λs=>b s t e) e
noncomputable def orT (a b:T):T:=λs t e=>a s t (λs=>b s t e)
noncomputable def noT (a:T):T:=λs t e=>a s e t
noncomputable def ofT (a:T):C:=λs k=>a s (λs=>k (.bool true) s) (λs=>k (.bool false) s)
def truthy (x:AV) (s:St) (t f:Bool):Bool:=
 AV.rec (motive:=λU=>Bool->Bool->Bool) (λU U=>false) (λb t f=>ite b t f) (λU U U=>false) (λU U U=>false) (λU U U U=>false) (λU U U U=>false) (λU U=>false) (λU U U=>false) (λU U=>false) (λU U U U=>false) (λU U U U=>false) (λU U U U=>false) (λU U U U=>false) (λU U U=>false) (λU U=>false) (λU U U U U U=>false) (λU U U U U U U U=>false) x t f
def tstT (a:C):T:=λs t e=>a s λv s=>truthy v s (t s) (e s)
def orC (a b:C):C:=λs k=>a s λv s=>truthy v s (k v s) (b s k)
def anC (a b:C):C:=λs k=>a s λv s=>truthy v s (b s k) (k v s)
noncomputable def iteC (t:T) (a b:C):C:=λs k=>t s (λs=>a s k) (λs=>b s k)
def isNonT (x:AV) (t f:Bool):Bool:=
 AV.rec (motive:=λU=>Bool->Bool->Bool) (λt U=>t) (λU U f=>f) (λU U f=>f) (λU U f=>f) (λU U U f=>f) (λU U U f=>f) (λU f=>f) (λU U f=>f) (λU f=>f) (λU U U f=>f) (λU U U f=>f) (λU U U f=>f) (λU U U f=>f) (λU U f=>f) (λU U=>false) (λU U U U U U=>false) (λU U U U U U U U=>false) x t f
def isN (a:C):T:=λs t e=>a s λv s=>isNonT v (t s) (e s)
def plainA (x:AV):Nat->Bool:=
 AV.rec (motive:=λU=>Nat->Bool) (λU=>true) (λU U=>true) (λU U=>true) (λU U=>true) (λU U U=>true) (λU U U=>true) (λU=>true) (λU U=>true) (λU=>false) (λU U U=>false)
  (λU ih n=>Nat.rec false (λm U=>ih m) n) (λU ih n=>Nat.rec false (λm U=>ih m) n) (λU U U=>false) (λU U=>false) (λU=>true) (λU U ih1 ih2 n=>and (ih1 n) (ih2 n)) (λU U U U U U U=>false) x
def eqD (bd:BL) (ys:AV) (t f:Bool):AV->Bool:=foldD t (λa v U ih=>findD bd a ys (λw=>and (and (plainA v 6) (plainA w 6)) (eqV bd v w ih f)) f)
def eqP (bd:BL) (x y:AV) (t f:Bool):Bool:=and (and (plainA x 6) (plainA y 6)) (eqV bd x y t f)
def cEqV (x':AV) (s:St) (y':AV) (t f:Bool):Bool:=
 AV.rec (motive:=λU=>St->AV->Bool->Bool->Bool) (λs y' t f=>eqP s.bd .none y' t f) (λb s y' t f=>eqP s.bd (.bool b) y' t f) (λn s y' t f=>eqP s.bd (.nat n) y' t f) (λn s y' t f=>eqP s.bd (.neg n) y' t f) (λa k_ s y' t f=>eqP s.bd (.sym a k_) y' t f) (λlo hi s y' t f=>eqP s.bd (.rng lo hi) y' t f) (λs y' t f=>eqP s.bd .any y' t f) (λc s y' t f=>eqP s.bd (.str c) y' t f) (λU U U U=>false) (λU U U U U U=>false) (λxs U s y' t f=>eqP s.bd (.tup xs) y' t f) (λxs U s y' t f=>eqP s.bd (.lst xs) y' t f) (λxs U s y' t f=>dicts y' s λys=>ite (Nat.beq (lenD xs) (lenD ys)) (eqD s.bd ys t f xs) f) (λU U U U U=>false) (λU U U U=>false) (λU U U U U U U U=>false) (λU U U U U U U U U U=>false) x' s y' t f
def cEqG:Cm:=λx y s t f=>view x s λx'=>view y s λy'=>cEqV x' s y' t f
def cEq:Cm:=λx y s t f=>
 AV.rec (motive:=λU=>AV->St->Bool->Bool->Bool) (λy s t f=>cEqG .none y s t f) (λb y s t f=>cEqG (.bool b) y s t f) (λn y s t f=>AV.rec (motive:=λU=>Nat->St->Bool->Bool->Bool) (λn s t f=>cEqG (.nat n) .none s t f) (λb n s t f=>cEqG (.nat n) (.bool b) s t f) (λm n U t f=>Bool.rec f t (Nat.beq n m)) (λm n s t f=>cEqG (.nat n) (.neg m) s t f) (λa k_ n s t f=>cEqG (.nat n) (.sym a k_) s t f) (λlo hi n s t f=>cEqG (.nat n) (.rng lo hi) s t f) (λn s t f=>cEqG (.nat n) .any s t f) (λc n s t f=>cEqG (.nat n) (.str c) s t f) (λn s t f=>cEqG (.nat n) .sany s t f) (λxs U n s t f=>cEqG (.nat n) (.byt xs) s t f) (λxs U n s t f=>cEqG (.nat n) (.tup xs) s t f) (λxs U n s t f=>cEqG (.nat n) (.lst xs) s t f) (λxs U n s t f=>cEqG (.nat n) (.dic xs) s t f) (λi n s t f=>cEqG (.nat n) (.loc i) s t f) (λn s t f=>cEqG (.nat n) .nil s t f) (λh t_ U U n s t f=>cEqG (.nat n) (.cons h t_) s t f) (λq_ v_ t_ U U U n s t f=>cEqG (.nat n) (.dcons q_ v_ t_) s t f) y n s t f) (λn y s t f=>cEqG (.neg n) y s t f) (λa k_ y s t f=>cEqG (.sym a k_) y s t f) (λlo hi y s t f=>cEqG (.rng lo hi) y s t f) (λy s t f=>cEqG .any y s t f) (λc y s t f=>AV.rec (motive:=λU=>Nat->St->Bool->Bool->Bool) (λc s t f=>cEqG (.str c) .none s t f) (λb c s t f=>cEqG (.str c) (.bool b) s t f) (λn c s t f=>cEqG (.str c) (.nat n) s t f) (λn c s t f=>cEqG (.str c) (.neg n) s t f) (λa k_ c s t f=>cEqG (.str c) (.sym a k_) s t f) (λlo hi c s t f=>cEqG (.str c) (.rng lo hi) s t f) (λc s t f=>cEqG (.str c) .any s t f) (λd c U t f=>Bool.rec f t (Nat.beq c d)) (λc s t f=>cEqG (.str c) .sany s t f) (λxs U c s t f=>cEqG (.str c) (.byt xs) s t f) (λxs U c s t f=>cEqG (.str c) (.tup xs) s t f) (λxs U c s t f=>cEqG (.str c) (.lst xs) s t f) (λxs U c s t f=>cEqG (.str c) (.dic xs) s t f) (λi c s t f=>cEqG (.str c) (.loc i) s t f) (λc s t f=>cEqG (.str c) .nil s t f) (λh t_ U U c s t f=>cEqG (.str c) (.cons h t_) s t f) (λq_ v_ t_ U U U c s t f=>cEqG (.str c) (.dcons q_ v_ t_) s t f) y c s t f) (λy s t f=>cEqG .sany y s t f) (λxs U y s t f=>cEqG (.byt xs) y s t f) (λxs U y s t f=>cEqG (.tup xs) y s t f) (λxs U y s t f=>cEqG (.lst xs) y s t f) (λxs U y s t f=>cEqG (.dic xs) y s t f) (λi y s t f=>cEqG (.loc i) y s t f) (λy s t f=>cEqG .nil y s t f) (λh t_ U U y s t f=>cEqG (.cons h t_) y s t f) (λq_ v_ t_ U U U y s t f=>cEqG (.dcons q_ v_ t_) y s t f) x y s t f
def cNe:Cm:=λx y s t f=>cEq x y s f t
def cLt:Cm:=λx y s t f=>leV s.bd y x f t
def cGt:Cm:=λx y s t f=>leV s.bd x y f t
def cLe:Cm:=λx y s t f=>leV s.bd x y t f
def cGe:Cm:=λx y s t f=>leV s.bd y x t f
def inS (bd:BL) (x xs:AV) (t f:Bool):Bool:=and (and (plainA x 6) (plainA (.tup xs) 6)) (inA bd x t f xs)
def inK (bd:BL) (x xs:AV) (t f:Bool):Bool:=and (keyA x 6) (findD bd x xs (λU=>t) f)
def cIn:Cm:=λx y s t f=>
 AV.rec (motive:=λU=>AV->St->Bool->Bool->Bool) (λU U U U=>false) (λU U U U U=>false) (λU U U U U=>false) (λU U U U U=>false) (λU U U U U U=>false) (λU U U U U U=>false) (λU U U U=>false) (λU U U U U=>false) (λU U U U=>false) (λU U U U U U=>false) (λxs U x s t f=>inS s.bd x xs t f) (λxs U x s t f=>inS s.bd x xs t f) (λxs U x s t f=>inK s.bd x xs t f) (λi x s t f=>HT.get i s.hp λo=>AObj.rec (motive:=λU=>Bool) (λxs=>inS s.bd x xs t f) (λU xs=>inK s.bd x xs t f) (λU U=>false) o) (λU U U U=>false) (λU U U U U U U U=>false) (λU U U U U U U U U U=>false) y x s t f
def cNi:Cm:=λx y s t f=>cIn x y s f t
def subN (a b:Nat) (s:St) (k:K AV):Bool:=ite (Nat.ble b a) (k (.nat (Nat.sub a b)) s) (k (.neg (Nat.pred (Nat.sub b a))) s)
def oAdd:Op:=λx y s k=>
 AV.rec (motive:=λU=>AV->St->K AV->Bool) (λU U U=>false) (λU U U U=>false) (λn y s k=>AV.rec (motive:=λU=>Nat->St->K AV->Bool) (λU U U=>false) (λU U U U=>false) (λm n s k=>k (.nat (Nat.add n m)) s) (λm n s k=>subN n (Nat.succ m) s k) (λa k_ n s k=>Bool.rec (k (.sym a (Nat.add n k_)) s) (k (.nat (Nat.add n k_)) s) (Nat.beq a 0)) (λlo hi n s k=>k (.rng (Nat.add n lo) (Nat.add n hi)) s) (λU s k=>k .any s) (λU U U U=>false) (λU U U=>false) (λU U U U U=>false) (λU U U U U=>false) (λU U U U U=>false) (λU U U U U=>false) (λU U U U=>false) (λU U U=>false) (λU U U U U U U=>false) (λU U U U U U U U U=>false) y n s k) (λn y s k=>asNum y (λb m=>ite (Nat.beq b 0) (subN m (Nat.succ n) s k) (k .any s)) (λm=>k (.neg (Nat.succ (Nat.add n m))) s) (λU U=>k .any s) (k .any s) false) (λa k_ y s k=>asNum y (λb m=>Bool.rec (k .any s) (k (.sym a (Nat.add k_ m)) s) (Nat.beq b 0)) (λU=>k .any s) (λU U=>k .any s) (k .any s) false) (λlo hi y s k=>asNum y (λb m=>Bool.rec (k .any s) (k (.rng (Nat.add lo m) (Nat.add hi m)) s) (Nat.beq b 0)) (λU=>k .any s) (λlo' hi'=>k (.rng (Nat.add lo lo') (Nat.add hi hi')) s) (k .any s) false) (λy s k=>asNum y (λU U=>k .any s) (λU=>k .any s) (λU U=>k .any s) (k .any s) false) (λc y s k=>AV.rec (motive:=λU=>Nat->St->K AV->Bool) (λU U U=>false) (λU U U U=>false) (λU U U U=>false) (λU U U U=>false) (λU U U U U=>false) (λU U U U U=>false) (λU U U=>false) (λd c s k=>ite (and (Nat.ble c 2582249878086908589655919172003011874329705792829223512830659356540647622016841194629645353280137831435903171972747493376) (Nat.ble d 2582249878086908589655919172003011874329705792829223512830659356540647622016841194629645353280137831435903171972747493376)) (k .sany s) false) (λU U U=>false) (λU U U U U=>false) (λU U U U U=>false) (λU U U U U=>false) (λU U U U U=>false) (λU U U U=>false) (λU U U=>false) (λU U U U U U U=>false) (λU U U U U U U U U=>false) y c s k) (λU U U=>false) (λxs U y s k=>AV.rec (motive:=λU=>AV->St->K AV->Bool) (λU U U=>false) (λU U U U=>false) (λU U U U=>false) (λU U U U=>false) (λU U U U U=>false) (λU U U U U=>false) (λU U U=>false) (λU U U U=>false) (λU U U=>false) (λys U xs s k=>ok4 (lenA (apA ys xs)) (k (.byt (apA ys xs)) s)) (λU U U U U=>false) (λU U U U U=>false) (λU U U U U=>false) (λU U U U=>false) (λU U U=>false) (λU U U U U U U=>false) (λU U U U U U U U U=>false) y xs s k) (λxs U y s k=>isTup y λys=>ok4 (lenA (apA ys xs)) (k (.tup (apA ys xs)) s)) (λxs U y s k=>view y s λy=>AV.rec (motive:=λU=>Bool) false (λU=>false) (λU=>false) (λU=>false) (λU U=>false) (λU U=>false) false (λU=>false) false (λU U=>false) (λU U=>false) (λys U=>ok4 (lenA (apA ys xs)) (k (.lst (apA ys xs)) s)) (λU U=>false) (λU=>false) false (λU U U U=>false) (λU U U U U U=>false) y) (λU U U U U=>false) (λi y s k=>HT.get i s.hp λo=>isList o λxs=>view y s λy=>AV.rec (motive:=λU=>Bool) false (λU=>false) (λU=>false) (λU=>false) (λU U=>false) (λU U=>false) false (λU=>false) false (λU U=>false) (λU U=>false) (λys U=>ok4 (lenA (apA ys xs)) (k (.lst (apA ys xs)) s)) (λU U=>false) (λU=>false) false (λU U U U=>false) (λU U U U U U=>false) y) (λU U U=>false) (λU U U U U U U=>false) (λU U U U U U U U U=>false) x y s k
def oSub:Op:=λx y s k=>
 asNum x
  (λa n=>asNum y
    (λb m=>ite (Nat.beq a b) (subN n m s k) (ite (Nat.beq b 0) (ite (Nat.ble m n) (k (.sym a (Nat.sub n m)) s) (k .any s)) (BL.get a b s.bd (λlo hi=>ite (Nat.ble m (Nat.add lo n)) (k (.rng (Nat.sub (Nat.add lo n) m) (Nat.sub (Nat.add hi n) m)) s) (k .any s)) (k .any s))))
    (λm=>ite (Nat.beq a 0) (k (.nat (Nat.succ (Nat.add n m))) s) (k .any s)) (λU U=>k .any s) (k .any s) false)
  (λn=>asNum y (λb m=>ite (Nat.beq b 0) (k (.neg (Nat.add n m)) s) (k .any s)) (λm=>subN m n s k) (λU U=>k .any s) (k .any s) false)
  (λU U=>asNum y (λU U=>k .any s) (λU=>k .any s) (λU U=>k .any s) (k .any s) false)
  (asNum y (λU U=>k .any s) (λU=>k .any s) (λU U=>k .any s) (k .any s) false) false
def boolN (x:AV):AV:=AV.rec (motive:=λU=>AV) x (λb=>.nat (Bool.rec 0 1 b)) (λU=>x) (λU=>x) (λU U=>x) (λU U=>x) x (λU=>x) x (λU U=>x) (λU U=>x) (λU U=>x) (λU U=>x) (λU=>x) x (λU U U U=>x) (λU U U U U U=>x) x
def isSmall (x:AV) (t:Nat->Bool) (f:Bool):Bool:=
 AV.rec (motive:=λU=>Bool) f (λU=>f) (λn=>ite (Nat.ble n 4294967296) (t n) f) (λU=>f) (λU U=>f) (λU U=>f) f (λU=>f) f (λU U=>f) (λU U=>f) (λU U=>f) (λU U=>f) (λU=>f) f (λU U U U=>f) (λU U U U U U=>f) x
def oMul:Op:=λx y s k=>
 isSmall x (λn=>asNum (boolN y) (λb m=>ite (Nat.beq b 0) (k (.nat (Nat.mul n m)) s) (k .any s)) (λU=>k .any s) (λU U=>k .any s) (k .any s) false)
  (isSmall y (λU=>asNum x (λU U=>k .any s) (λU=>k .any s) (λU U=>k .any s) (k .any s) false) false)
def oMod:Op:=λx y s k=>isNat y λm=>Nat.rec false (λm' U=>
 asNum x (λa n=>ite (Nat.beq a 0) (k (.nat (Nat.mod n m)) s) (k (.rng 0 m') s))
  (λn=>k (.nat (Nat.sub m' (Nat.mod n m))) s) (λlo hi=>ite (Nat.ble hi m') (k (.rng lo hi) s) (k (.rng 0 m') s)) (k (.rng 0 m') s) false) m
def oDiv:Op:=λx y s k=>isNat x λn=>isNat y λm=>ite (Nat.ble m 1000000) (Nat.rec false (λU U=>k (.nat (Nat.div n m)) s) m) false
def oShr:Op:=λx y s k=>isNat y λm=>
 asNum x (λa n=>ite (Nat.beq a 0) (k (.nat (Nat.shiftRight n m)) s) (ite (Nat.beq m 0) (k (.sym a n) s) (BL.get a 0 s.bd (λU hi=>ite (Nat.beq (Nat.shiftRight (Nat.add hi n) m) 0) (k (.nat 0) s) false) false)))
  (λU=>false) (λU hi=>ite (Nat.beq m 0) (k x s) (ite (Nat.beq (Nat.shiftRight hi m) 0) (k (.nat 0) s) (k .any s))) (k .any s) false
def oShl:Op:=λx y s k=>isNat x λn=>isNat y λm=>ite (and (Nat.ble m 64) (Nat.ble n 4294967296)) (k (.nat (Nat.shiftLeft n m)) s) false
def oAnd:Op:=λx y s k=>isNat y λm=>
 asNum x (λa n=>ite (Nat.beq a 0) (k (.nat (Nat.land n m)) s) (ite (Nat.beq m 255) (BL.get a 0 s.bd (λU hi=>ite (Nat.ble (Nat.add hi n) 255) (k (.sym a n) s) (k (.rng 0 255) s)) (k (.rng 0 255) s)) false))
  (λU=>false) (λU hi=>ite (Nat.beq m 255) (ite (Nat.ble hi 255) (k x s) (k (.rng 0 255) s)) false) (ite (Nat.beq m 255) (k (.rng 0 255) s) false) false
def oOr:Op:=λx y s k=>isNat x λn=>isNat y λm=>k (.nat (Nat.lor n m)) s
def oPow:Op:=λx y s k=>isNat x λn=>isNat y λm=>ite (and (Nat.ble m 64) (Nat.ble n 2)) (k (.nat (Nat.pow n m)) s) false
def attr (a:Nat) (e:C):C:=λs k=>e s λo s=>isLoc o λi=>HT.get i s.hp λo=>isInst o λU kvs=>
 foldD false (λq v U ih=>AV.rec (motive:=λU=>Bool) false (λU=>false) (λU=>false) (λU=>false) (λU U=>false) (λU U=>false) false (λc=>Bool.rec ih (k v s) (Nat.beq c a)) false (λU U=>false) (λU U=>false) (λU U=>false) (λU U=>false) (λU=>false) false (λU U U U=>false) (λU U U U U U=>false) q) kvs
def atI (xs:AV) (x:AV) (s:St) (k:K AV):Bool:=
 asNum x (λa n=>ite (Nat.beq a 0) (nthA xs n λv=>k v s) false) (λn=>nthA (revA xs) n λv=>k v s) (λU U=>false) false false
def item (o x:AV) (s:St) (k:K AV):Bool:=
 AV.rec (motive:=λU=>AV->St->K AV->Bool) (λU U U=>false) (λU U U U=>false) (λU U U U=>false) (λU U U U=>false) (λU U U U U=>false) (λU U U U U=>false) (λU U U=>false) (λU U U U=>false) (λU U U=>false) (λU U U U U=>false) (λxs U x s k=>atI xs x s k) (λxs U x s k=>atI xs x s k) (λxs U x s k=>and (keyA x 6) (findD s.bd x xs (λv=>k v s) false)) (λi x s k=>HT.get i s.hp λo=>AObj.rec (motive:=λU=>Bool) (λxs=>atI xs x s k) (λU xs=>and (keyA x 6) (findD s.bd x xs (λv=>k v s) false)) (λU U=>false) o) (λU U U=>false) (λU U U U U U U=>false) (λU U U U U U U U U=>false) o x s k
def idx (e i:C):C:=λs k=>e s λo s=>i s λx s=>item o x s k
def cut (f:AV->Nat->AV) (g:Nat->Nat->Bool) (e i:C):C:=λs k=>e s λo s=>i s λx s=>isNat x λn=>
 AV.rec (motive:=λU=>Bool) false (λU=>false) (λU=>false) (λU=>false) (λU U=>false) (λU U=>false) false (λU=>false) false (λxs U=>ok4 (lenA xs) (k (.byt (f xs n)) s)) (λxs U=>ite (g n (lenA xs)) (k (.tup (f xs n)) s) false) (λxs U=>k (.lst (f xs n)) s) (λU U=>false)
  (λi=>HT.get i s.hp λo=>isList o λxs=>k (.lst (f xs n)) s) false (λU U U U=>false) (λU U U U U U=>false) o
def cutTo:C->C->C:=cut takeA (λU U=>true)
def cutFrom:C->C->C:=cut dropA (λn m=>and (Nat.ble 1 n) (Nat.ble n m))
inductive CL where|nil|cons (c:C) (l:CL)
def evL:CL->St->K AV->Bool:=CL.rec (motive:=λU=>St->K AV->Bool) (λs k=>k .nil s) (λc U ih s k=>c s λv s=>ih s λvs s=>k (.cons v vs) s)
def tupE (l:CL):C:=λs k=>evL l s λvs s=>k (.tup vs) s
def lstE (l:CL):C:=λs k=>evL l s λvs s=>newO (.list vs) s k
def putsD (bd:BL):AV->AV->Nat->(AV->Nat->Bool)->Bool:=foldD (λacc n k=>k acc n) (λq v U ih acc n k=>and (keyA q 6) (putD bd q v acc λacc' m=>ih acc' (Nat.add n m) k))
inductive DL where|nil|cons (q v:C) (l:DL)
def evD:DL->St->K AV->Bool:=DL.rec (motive:=λU=>St->K AV->Bool) (λs k=>k .nil s) (λq c U ih s k=>q s λq s=>c s λv s=>ih s λvs s=>k (.dcons q v vs) s)
def dctE (l:DL):C:=λs k=>evD l s λkvs s=>putsD s.bd kvs .nil 0 λkvs n=>newO (.dict n kvs) s k
def tVar (x:Nat):A:=λv s k=>k ⟨VL.set x v s.vars,s.cvars,s.hp,s.nx,s.bd⟩
def tCvar (x:Nat):A:=λv s k=>k ⟨s.vars,VL.set x v s.cvars,s.hp,s.nx,s.bd⟩
inductive AL where|nil|cons (a:A) (l:AL)
def evT:AL->AV->St->(St->Bool)->Bool:=AL.rec (motive:=λU=>AV->St->(St->Bool)->Bool) (λvs s k=>isNil vs (k s)) (λa U ih vs s k=>isCons vs λv vs=>a v s λs=>ih vs s k)
def lenT:AL->Nat:=AL.rec (motive:=λU=>Nat) 0 (λU U n=>Nat.succ n)
def tTup (l:AL):A:=λv s k=>isTup v λvs=>ite (Nat.beq (lenA vs) (lenT l)) (evT l vs s k) false
def tIdx (o i:C):A:=λv s k=>o s λo s=>i s λx s=>isLoc o λp=>HT.get p s.hp λob=>
 AObj.rec (motive:=λU=>Bool) (λU=>false) (λep kvs=>and (keyA x 6) (putD s.bd x v kvs λkvs n=>ok4 (lenD kvs) (k (setO p (.dict (Nat.add ep n) kvs) s)))) (λU U=>false) ob
def tAttr (a:Nat) (o:C):A:=λv s k=>o s λo s=>isLoc o λp=>HT.get p s.hp λob=>isInst ob λc kvs=>putD s.bd (.str a) v kvs λkvs U=>ok4 (lenD kvs) (k (setO p (.inst c kvs) s))
noncomputable def back (s s':St):St:=⟨s.vars,s.cvars,s'.hp,s'.nx,s'.bd⟩
def bindP (ds:VL) (ps:NL):AV->(VL->Bool)->Bool:=
 NL.rec (motive:=λU=>AV->(VL->Bool)->Bool) (λvs k=>isNil vs (k .nil))
  (λx U ih vs k=>AV.rec (motive:=λU=>Bool) false (λU=>false) (λU=>false) (λU=>false) (λU U=>false) (λU U=>false) false (λU=>false) false (λU U=>false) (λU U=>false) (λU U=>false) (λU U=>false) (λU=>false) (VL.get x ds λv=>ih .nil λl=>k (.cons x v l)) (λh t U U=>ih t λl=>k (.cons x h l)) (λU U U U U U=>false) vs) ps
def fnD (ps:NL) (ds:VL) (b:S):F:=λvs s k=>bindP ds ps vs λl=>b ⟨l,.nil,s.hp,s.nx,s.bd⟩ (λs'=>k .none (back s s')) (λv s'=>k v (back s s')) (λU=>false)
def callF (f:F) (l:CL):C:=λs k=>evL l s λvs s=>f vs s k
def newC (c:Nat) (init:F) (l:CL):C:=λs k=>evL l s λvs s=>newO (.inst c .nil) s λo s=>init (.cons o vs) s λr s=>isNonT r (k o s) false
inductive ML where|nil|cons (c:Nat) (f:F) (l:ML)
def disp (c:Nat) (l:ML) (k:F->Bool):Bool:=ML.rec (motive:=λU=>Bool) false (λd f U ih=>Bool.rec ih (k f) (Nat.beq d c)) l
def meth (nm:Nat) (ms:ML) (o:C) (l:CL):C:=λs k=>o s λo s=>isLoc o λi=>HT.get i s.hp λob=>isInst ob λc kvs=>findD s.bd (.str nm) kvs (λU=>false) (disp c ms λf=>evL l s λvs s=>f (.cons o vs) s k)
def coverA (bd:BL) (x:AV):AV->Bool:=
 AV.rec (motive:=λU=>AV->Bool)
  (λy=>isNonT y true false)
  (λb y=>AV.rec (motive:=λU=>Bool) false (λc=>Bool.rec (not c) c b) (λU=>false) (λU=>false) (λU U=>false) (λU U=>false) false (λU=>false) false (λU U=>false) (λU U=>false) (λU U=>false) (λU U=>false) (λU=>false) false (λU U U U=>false) (λU U U U U U=>false) y)
  (λn y=>asNum y (λa k=>and (Nat.beq a 0) (Nat.beq n k)) (λU=>false) (λlo hi=>and (Nat.ble lo n) (Nat.ble n hi)) true false)
  (λn y=>asNum y (λU U=>false) (λm=>Nat.beq n m) (λU U=>false) true false)
  (λa k y=>asNum y (λb m=>and (Nat.beq a b) (Nat.beq k m)) (λU=>false) (λlo hi=>leS bd 0 lo a k (leS bd a k 0 hi true false) false) true false)
  (λlo hi y=>asNum y (λU U=>false) (λU=>false) (λlo' hi'=>and (Nat.ble lo' lo) (Nat.ble hi hi')) true false)
  (λy=>asNum y (λU U=>false) (λU=>false) (λU U=>false) true false)
  (λc y=>AV.rec (motive:=λU=>Bool) false (λU=>false) (λU=>false) (λU=>false) (λU U=>false) (λU U=>false) false (λd=>Nat.beq c d) true (λU U=>false) (λU U=>false) (λU U=>false) (λU U=>false) (λU=>false) false (λU U U U=>false) (λU U U U U U=>false) y)
  (λy=>AV.rec (motive:=λU=>Bool) false (λU=>false) (λU=>false) (λU=>false) (λU U=>false) (λU U=>false) false (λU=>false) true (λU U=>false) (λU U=>false) (λU U=>false) (λU U=>false) (λU=>false) false (λU U U U=>false) (λU U U U U U=>false) y)
  (λU U U=>false)
  (λU ih y=>isTup y λys=>ih ys)
  (λU U U=>false) (λU U U=>false) (λU U=>false)
  (λy=>isNil y true)
  (λU U ih1 ih2 y=>isCons y λh t=>and (ih1 h) (ih2 t))
  (λU U U U U U U=>false) x
def callS (sh r:AV) (f:F):F:=λvs s k=>Bool.rec (f vs s k) (k r s) (coverA s.bd vs sh)
noncomputable def b1 (f:AV->St->K AV->Bool) (e:C):C:=λs k=>e s λv s=>f v s k
def bSorted:AV->St->K AV->Bool:=λx s k=>itemsL x s λxs=>sortA s.bd xs λys=>k (.lst ys) s
def bSortedR:AV->St->K AV->Bool:=λx s k=>itemsL x s λxs=>sortA s.bd (revA xs) λys=>k (.lst (revA ys)) s
def pairsD (bd:BL):AV->AV->Nat->(AV->Nat->Bool)->Bool:=foldA (λacc n k=>k acc n) (λp U ih acc n k=>isTup p λp=>isCons p λq r=>isCons r λv r=>isNil r (and (keyA q 6) (putD bd q v acc λacc' m=>ih acc' (Nat.add n m) k)))
def bDict:AV->St->K AV->Bool:=λx s k=>lsts x s λxs=>pairsD s.bd xs .nil 0 λkvs U=>k (.dic kvs) s
def bList:AV->St->K AV->Bool:=λx s k=>itemsL x s λxs=>k (.lst xs) s
def bTuple:AV->St->K AV->Bool:=λx s k=>lsts x s λxs=>k (.tup xs) s
def bLen:AV->St->K AV->Bool:=λx s k=>items x s λxs=>ok4 (lenA xs) (k (.nat (lenA xs)) s)
def bInt:AV->St->K AV->Bool:=λx s k=>ite (isIntV x) (k x s) false
def boolsA:AV->Bool:=foldA true (λh U r=>AV.rec (motive:=λU=>Bool) false (λU=>r) (λU=>false) (λU=>false) (λU U=>false) (λU U=>false) false (λU=>false) false (λU U=>false) (λU U=>false) (λU U=>false) (λU U=>false) (λU=>false) false (λU U U U=>false) (λU U U U U U=>false) h)
def bAny:AV->St->K AV->Bool:=λx s k=>lsts x s λxs=>and (boolsA xs) (foldA (k (.bool false) s) (λh U ih=>truthy h s (k (.bool true) s) ih) xs)
def okB (bd:BL):AV->Bool:=foldA true (λh U ih=>and (and (leV bd (.nat 0) h true false) (leV bd h (.nat 255) true false)) ih)
def bBytes:AV->St->K AV->Bool:=λx s k=>lsts x s λxs=>ite (okB s.bd xs) (k (.byt xs) s) false
def isByt (e:C):C:=λs k=>e s λv s=>
 AV.rec (motive:=λU=>Bool) false (λU=>false) (λU=>k (.bool false) s) (λU=>k (.bool false) s) (λU U=>k (.bool false) s) (λU U=>k (.bool false) s) (k (.bool false) s) (λU=>false) false (λU U=>false) (λU U=>k (.bool false) s) (λU U=>false) (λU U=>false) (λU=>false) false (λU U U U=>false) (λU U U U U U=>false) v
def bMin:Op:=λx y s k=>leV s.bd x y (k x s) (k y s)
def bMax:Op:=λx y s k=>leV s.bd y x (k x s) (k y s)
def joinB:AV->(AV->Bool)->Bool:=foldA (λk=>k .nil) (λh U ih k=>AV.rec (motive:=λU=>Bool) false (λU=>false) (λU=>false) (λU=>false) (λU U=>false) (λU U=>false) false (λU=>false) false (λxs U=>ih λys=>k (apA ys xs)) (λU U=>false) (λU U=>false) (λU U=>false) (λU=>false) false (λU U U U=>false) (λU U U U U U=>false) h)
def bJoin:AV->St->K AV->Bool:=λx s k=>lsts x s λxs=>joinB xs λys=>ok4 (lenA ys) (k (.byt ys) s)
def mGet (o a d:C):C:=λs k=>o s λo s=>dicts o s λU=>a s λq s=>d s λd s=>dicts o s λkvs=>and (keyA q 6) (findD s.bd q kvs (λv=>k v s) (k d s))
def isPair (x:AV) (k:Nat->Nat->Bool):Bool:=isTup x λxs=>isCons xs λh t=>isNat h λa=>isCons t λh2 t2=>isNat h2 λb=>isNil t2 (k a b)
noncomputable def hashK (a b:Nat):Int:=PySem.reduceHash (PySem.Builtin.Tuple.tupleHashOf [PySem.hashInt (Int.ofNat a),PySem.hashInt (Int.ofNat b)])
def diffH (x y:AV):Bool:=isPair x λa b=>isPair y λc d=>Bool.rec true false (decide (hashK a b=hashK c d))
def isD (x:AV) (n:Bool) (k:AV->AV->AV->Bool):Bool:=
 AV.rec (motive:=λU=>Bool) false (λU=>false) (λU=>false) (λU=>false) (λU U=>false) (λU U=>false) false (λU=>false) false (λU U=>false) (λU U=>false) (λU U=>false) (λU U=>false) (λU=>false) n (λU U U U=>false) (λq v t U U U=>k q v t) x
def srcD (i:P) (x:AV) (s:St) (k:AV->Bool):Bool:=
 AV.rec (motive:=λU=>Bool) false (λU=>false) (λU=>false) (λU=>false) (λU U=>false) (λU U=>false) false (λU=>false) false (λU U=>false) (λU U=>false) (λU U=>false) (λxs U=>k xs)
  (λj=>ite (P.eqb i j) false (HT.get j s.hp λo=>isDict o λU xs=>k xs)) false (λU U U U=>false) (λU U U U U U=>false) x
def srcL (i:P) (x:AV) (s:St) (k:AV->Bool):Bool:=
 AV.rec (motive:=λU=>Bool) false (λU=>false) (λU=>false) (λU=>false) (λU U=>false) (λU U=>false) false (λU=>false) false (λU U=>false) (λU U=>false) (λxs U=>k xs) (λU U=>false)
  (λj=>ite (P.eqb i j) false (HT.get j s.hp λo=>isList o k)) false (λU U U U=>false) (λU U U U U U=>false) x
def mUpd (o a:C):C:=λs k=>o s λo s=>dicts o s λU=>a s λx s=>isLoc o λi=>srcD i x s λys=>HT.get i s.hp λob=>isDict ob λep kvs=>
 isD kvs
  (isD ys (k .none s) λq U t=>isD t (isTup q λU=>k .none (setO i (.dict (Nat.succ ep) ys) s)) λq2 U t2=>isD t2 (ite (diffH q q2) (k .none (setO i (.dict (Nat.succ ep) ys) s)) false) λU U U=>false)
  (λU U U=>putsD s.bd ys kvs ep λkvs ep=>ok4 (lenD kvs) (k .none (setO i (.dict ep kvs) s)))
def mPop (o a d:C):C:=λs k=>o s λo s=>dicts o s λU=>a s λq s=>d s λd s=>isLoc o λi=>isTup q λU=>HT.get i s.hp λob=>isDict ob λU kvs=>isD kvs (k d s) λU U U=>false
def mSetd (o a d:C):C:=λs k=>o s λo s=>dicts o s λU=>a s λq s=>d s λd s=>isLoc o λi=>HT.get i s.hp λob=>isDict ob λep kvs=>and (keyA q 6) (findD s.bd q kvs (λv=>k v s) (ok4 (Nat.succ (lenD kvs)) (k d (setO i (.dict (Nat.succ ep) (apD (.dcons q d .nil) kvs)) s))))
def mApp (o a:C):C:=λs k=>o s λo s=>lsts o s λU=>a s λv s=>isLoc o λi=>HT.get i s.hp λob=>isList ob λxs=>ok4 (Nat.succ (lenA xs)) (k .none (setO i (.list (apA (.cons v .nil) xs)) s))
def mExt (o a:C):C:=λs k=>o s λo s=>lsts o s λU=>a s λv s=>isLoc o λi=>srcL i v s λys=>HT.get i s.hp λob=>isList ob λxs=>ok4 (lenA (apA ys xs)) (k .none (setO i (.list (apA ys xs)) s))
noncomputable def noC (s:St):St:=⟨s.vars,.nil,s.hp,s.nx,s.bd⟩
inductive It where
 |fz (xs:AV)
 |ls (p:P) (i:Nat)
 |dk (p:P) (ep n i:Nat)
abbrev I:=St->(It->St->Bool)->Bool
def iterOf (x:AV) (s:St) (k:It->Bool):Bool:=
 AV.rec (motive:=λU=>St->(It->Bool)->Bool) (λU U=>false) (λU U U=>false) (λU U U=>false) (λU U U=>false) (λU U U U=>false) (λU U U U=>false) (λU U=>false) (λU U U=>false) (λU U=>false) (λxs U U k=>k (.fz xs)) (λxs U U k=>k (.fz xs)) (λxs U U k=>k (.fz xs)) (λxs U U k=>k (.fz (keysD xs))) (λi s k=>HT.get i s.hp λo=>AObj.rec (motive:=λU=>Bool) (λU=>k (.ls i 0)) (λep xs=>k (.dk i ep (lenD xs) 0)) (λU U=>false) o) (λU U=>false) (λU U U U U U=>false) (λU U U U U U U U=>false) x s k
def itE (e:C):I:=λs k=>e s λx s=>iterOf x s λit=>k it s
def itR (a b:C):I:=λs k=>a s λa s=>b s λb s=>isNat a λa=>isNat b λb=>ok4 b (k (.fz (upN (Nat.sub b a) a)) s)
def itD (a:C):I:=λs k=>a s λa s=>isNat a λa=>ok4 a (k (.fz (downN (Nat.succ a))) s)
def nthO (xs:AV):Nat->(AV->Bool)->Bool->Bool:=foldA (λU U d=>d) (λh U ih n k d=>Nat.rec (k h) (λm U=>ih m k d) n) xs
def nthK (xs:AV):Nat->(AV->Bool)->Bool->Bool:=foldD (λU U d=>d) (λq U U ih n k d=>Nat.rec (k q) (λm U=>ih m k d) n) xs
def nxt (it:It) (s:St) (k:AV->It->Bool) (d:Bool):Bool:=
 It.rec (motive:=λU=>St->(AV->It->Bool)->Bool->Bool)
  (λxs U k d=>AV.rec (motive:=λU=>(AV->It->Bool)->Bool->Bool) (λU U=>false) (λU U U=>false) (λU U U=>false) (λU U U=>false) (λU U U U=>false) (λU U U U=>false) (λU U=>false) (λU U U=>false) (λU U=>false) (λU U U U=>false) (λU U U U=>false) (λU U U U=>false) (λU U U U=>false) (λU U U=>false) (λU d=>d) (λh t_ U U k U=>k h (.fz t_)) (λU U U U U U U U=>false) xs k d)
  (λp i s k d=>HT.get p s.hp λo=>isList o λxs=>nthO xs i (λv=>k v (.ls p (Nat.succ i))) d)
  (λp ep n i s k d=>HT.get p s.hp λo=>isDict o λep' xs=>ite (and (Nat.beq ep' ep) (Nat.beq (lenD xs) n)) (nthK xs i (λv=>k v (.dk p ep n (Nat.succ i))) d) false) it s k d
def lcL (t:A) (c:T) (e:C) (n:Nat):It->St->K AV->Bool:=
 Nat.rec (motive:=λU=>It->St->K AV->Bool) (λU U U=>false)
  (λU ih it s k=>nxt it s (λh it=>t h s λs=>c s (λs=>e s λv s=>ih it s λvs s=>k (.cons v vs) s) (λs=>ih it s k)) (k .nil s)) n
noncomputable def yes:T:=λs t U=>t s
def lc (e:C) (t:A) (it:I) (c:T):C:=λs k=>it s λx s=>lcL t c e 100 x (noC s) λvs s=>k (.lst vs) (noC s)
def dcL (t:A) (c:T) (q e:C) (n:Nat):It->AV->St->K AV->Bool:=
 Nat.rec (motive:=λU=>It->AV->St->K AV->Bool) (λU U U U=>false)
  (λU ih it acc s k=>nxt it s (λh it=>t h s λs=>c s (λs=>q s λq s=>e s λv s=>and (keyA q 6) (putD s.bd q v acc λacc U=>ih it acc s k)) (λs=>ih it acc s k)) (k acc s)) n
def dc (q e:C) (t:A) (it:I) (c:T):C:=λs k=>it s λx s=>dcL t c q e 100 x .nil (noC s) λvs s=>k (.dic vs) (noC s)
noncomputable def skip:S:=λs n U U=>n s
noncomputable def badS:S:=λU U U U=>false
noncomputable def sq (a b:S):S:=λs n r c=>a s (λs=>b s n r c) r c
noncomputable def asg (t:A) (e:C):S:=λs n U U=>e s λv s=>t v s n
def asgR (ts:AL) (es:CL):S:=λs n U U=>evL es s λvs s=>evT ts (revA vs) s n
noncomputable def exS (e:C):S:=λs n U U=>e s λU s=>n s
noncomputable def retS (e:C):S:=λs U r U=>e s r
noncomputable def ifS (t:T) (a b:S):S:=λs n r c=>t s (λs=>a s n r c) (λs=>b s n r c)
noncomputable def cntS:S:=λs U U c=>c s
def forL (t:A) (b:S) (m:Nat):It->St->(St->Bool)->(AV->St->Bool)->Bool:=
 Nat.rec (motive:=λU=>It->St->(St->Bool)->(AV->St->Bool)->Bool) (λU U U U=>false)
  (λU ih it s n r=>nxt it s (λh it=>t h s λs=>b s (λs=>ih it s n r) r (λs=>ih it s n r)) (n s)) m
def forS (t:A) (it:I) (b:S):S:=λs n r U=>it s λx s=>forL t b 100 x s n r
noncomputable def whl (t:T) (b:S) (m:Nat):S:=Nat.rec (motive:=λU=>S) badS (λU ih=>λs n r c=>t s (λs=>b s (λs=>ih s n r c) r (λs=>ih s n r c)) n) m
noncomputable def scL:List Nat->Nat->Nat
 |[],n=>n
 |c::l,n=>scL l (n*256+c)
noncomputable def sc (x:Str):Nat:=scL x.cps.toList 1
noncomputable def okS (x:Str):Bool:=x.cps.toList.all λc=>Nat.blt c 256
theorem scL_ge:∀(l:List Nat) (n:Nat),n≤scL l n
 |[],n=>Nat.le_refl n
 |c::l,n=>by
  have:=scL_ge l (n*256+c)
  unfold scL;omega
theorem scL_append:∀(l r:List Nat) (n:Nat),scL (l++r) n=scL r (scL l n)
 |[],_,_=>rfl
 |c::l,r,n=>scL_append l r (n*256+c)
theorem dm1 {x y c d:Nat} (hc:c<256) (hd:d<256) (h:x*256+c=y*256+d):c=d∧x=y:=by omega
theorem dm0 {P:Prop} {y d:Nat} (g:1≤y) (h:1=y*256+d):P:=by omega
theorem scL_inj (a b:List Nat) (ha:∀c∈a,c<256) (hb:∀c∈b,c<256) (h:scL a.reverse 1=scL b.reverse 1):a=b:=by
 induction a generalizing b with
 |nil=>cases b with
  |nil=>rfl
  |cons c b=>rw[List.reverse_cons,scL_append] at h;exact dm0 (scL_ge b.reverse 1) h
 |cons c a ih=>
  rw[List.reverse_cons,scL_append] at h
  cases b with
  |nil=>exact dm0 (scL_ge a.reverse 1) h.symm
  |cons d b=>
   rw[List.reverse_cons,scL_append] at h
   have e:=dm1 (ha c List.mem_cons_self) (hb d List.mem_cons_self) h
   rw[e.1,ih b (λx hx=>ha x (List.mem_cons_of_mem _ hx)) (λx hx=>hb x (List.mem_cons_of_mem _ hx)) e.2]
theorem sc_inj {x y:Str} (hx:okS x=true) (hy:okS y=true) (h:sc x=sc y):x=y:=by
 obtain ⟨⟨a⟩⟩:=x
 obtain ⟨⟨b⟩⟩:=y
 simp only[okS,List.all_eq_true] at hx hy
 have hx':∀c∈a.reverse,c<256:=λc hc=>by have:=hx c (List.mem_reverse.mp hc);simpa[Nat.blt_eq] using this
 have hy':∀c∈b.reverse,c<256:=λc hc=>by have:=hy c (List.mem_reverse.mp hc);simpa[Nat.blt_eq] using this
 have:=scL_inj a.reverse b.reverse hx' hy' (by simpa[sc] using h)
 rw[List.reverse_inj] at this
 rw[this]
set_option genInjectivity true in
inductive CD where
 |none
 |bool (b:Bool)
 |int (i:Int)
 |str (s:Str)
 |bytes (b:List UInt8)
 |tup (xs:List CD)
 |lst (xs:List CD)
 |dic (kvs:List (CD×CD))
 |loc (p:P)
structure Rho where
 val:Nat->Int
 zero:val 0=0
def BOk (ρ:Rho):BL->Prop
 | .nil=>True
 | .cons a b lo hi l=>((lo:Int)≤ρ.val a-ρ.val b∧ρ.val a-ρ.val b≤(hi:Int))∧BOk ρ l
mutual
inductive Conc (ρ:Rho):AV->CD->Prop
 |none:Conc ρ .none .none
 |bool (b:Bool):Conc ρ (.bool b) (.bool b)
 |nat (n:Nat):Conc ρ (.nat n) (.int (n:Int))
 |neg (n:Nat):Conc ρ (.neg n) (.int (Int.negSucc n))
 |sym (a k:Nat):Conc ρ (.sym a k) (.int (ρ.val a+(k:Int)))
 |rng (lo hi:Nat) (i:Int):(lo:Int)≤i->i≤(hi:Int)->Conc ρ (.rng lo hi) (.int i)
 |any (i:Int):Conc ρ .any (.int i)
 |str (s:Str):okS s=true->Conc ρ (.str (sc s)) (.str s)
 |sany (s:Str):Conc ρ .sany (.str s)
 |byt {xs:AV} {bs:List UInt8}:ConcB ρ xs bs->Conc ρ (.byt xs) (.bytes bs)
 |tup {xs:AV} {ds:List CD}:ConcL ρ xs ds->Conc ρ (.tup xs) (.tup ds)
 |lst {xs:AV} {ds:List CD}:ConcL ρ xs ds->Conc ρ (.lst xs) (.lst ds)
 |dic {xs:AV} {ds:List (CD×CD)}:ConcD ρ xs ds->Conc ρ (.dic xs) (.dic ds)
 |loc (p:P):Conc ρ (.loc p) (.loc p)
inductive ConcL (ρ:Rho):AV->List CD->Prop
 |nil:ConcL ρ .nil []
 |cons {h t:AV} {d:CD} {ds:List CD}:Conc ρ h d->ConcL ρ t ds->ConcL ρ (.cons h t) (d::ds)
inductive ConcB (ρ:Rho):AV->List UInt8->Prop
 |nil:ConcB ρ .nil []
 |cons {h t:AV} {b:UInt8} {bs:List UInt8}:Conc ρ h (.int (b.toNat:Int))->ConcB ρ t bs->ConcB ρ (.cons h t) (b::bs)
inductive ConcD (ρ:Rho):AV->List (CD×CD)->Prop
 |nil:ConcD ρ .nil []
 |cons {k v t:AV} {a b:CD} {ds:List (CD×CD)}:Conc ρ k a->Conc ρ v b->ConcD ρ t ds->ConcD ρ (.dcons k v t) ((a,b)::ds)
end
structure Wd where
 eta:P->Option (Addr×Addr)
 X:Addr->Prop
 W:Addr->Prop
 sub:∀a,W a->X a
noncomputable def CD.keyF (f:List CD->Bool) (d:CD):Bool:=CD.casesOn (motive_1:=λU=>Bool) d false (λU=>false) (λU=>true) okS (λU=>false) f (λU=>false) (λU=>false) (λU=>false)
noncomputable def CD.keyL (n:Nat):List CD->Bool:=Nat.rec (motive:=λU=>List CD->Bool) (λU=>false) (λU f xs=>xs.all (CD.keyF f)) n
noncomputable def CD.key (n:Nat):CD->Bool:=CD.keyF (CD.keyL n)
mutual
noncomputable def keyH (Pm:Params):CD->Int
 | .int i=>hashInt i
 | .str s=>PyData.keyHash Pm s
 | .tup xs=>reduceHash (Builtin.Tuple.tupleHashOf (keyHs Pm xs))
 |_=>0
noncomputable def keyHs (Pm:Params):List CD->List Int
 |[]=>[]
 |x::xs=>keyH Pm x::keyHs Pm xs
end
mutual
inductive Rd (Pm:Params) (w:Wd) (h:Heap):CD->Value->Prop
 |none:Rd Pm w h .none .none
 |bool (b:Bool):Rd Pm w h (.bool b) (.bool b)
 |int (i:Int) (t:Tok):Rd Pm w h (.int i) (.int i t)
 |str (s:Str) (t:Tok):Rd Pm w h (.str s) (.str s t)
 |bytes (b:Array UInt8) (t:Tok):Rd Pm w h (.bytes b.toList) (.bytes b t)
 |tup {a:Addr} {o:Obj} {vs:Array Value} {n:Nat} {xs:List CD}:h.get? a=some o->o.cls=.type "tuple"->o.data=.seq vs n->¬w.X a∧vs.size≤10000->RdL Pm w h xs vs.toList->Rd Pm w h (.tup xs) (.ref a)
 |lst {a:Addr} {o:Obj} {vs:Array Value} {n:Nat} {xs:List CD}:h.get? a=some o->o.cls=.type "list"->o.data=.seq vs n->¬w.X a∧vs.size≤10000->RdL Pm w h xs vs.toList->o.dict=none->Rd Pm w h (.lst xs) (.ref a)
 |dic {a:Addr} {o:Obj} {es:Array DictEntry} {n:Nat} {kvs:List (CD×CD)}:h.get? a=some o->o.ExactDict∧(a==sysModules)=false->o.data=.dict es n->¬w.X a∧es.size≤10000->RdE Pm w h kvs es.toList->(kvs.map (·.1)).Nodup->Rd Pm w h (.dic kvs) (.ref a)
 |loc {p:P} {a b:Addr}:w.eta p=some (a,b)->Rd Pm w h (.loc p) (.ref a)
inductive RdL (Pm:Params) (w:Wd) (h:Heap):List CD->List Value->Prop
 |nil:RdL Pm w h [] []
 |cons {d:CD} {ds:List CD} {v:Value} {vs:List Value}:Rd Pm w h d v->RdL Pm w h ds vs->RdL Pm w h (d::ds) (v::vs)
inductive RdE (Pm:Params) (w:Wd) (h:Heap):List (CD×CD)->List DictEntry->Prop
 |nil:RdE Pm w h [] []
 |cons {k v:CD} {ds:List (CD×CD)} {kv vv:Value} {es:List DictEntry}:k.key 6=true->Rd Pm w h k kv->Rd Pm w h v vv->RdE Pm w h ds es->RdE Pm w h ((k,v)::ds) (⟨keyH Pm k,kv,vv⟩::es)
end
structure Ext (w:Wd) (h:Heap) (w':Wd) (h':Heap):Prop where
 eta:∀p x,w.eta p=some x->w'.eta p=some x
 keep:∀a o,h.get? a=some o->¬w.W a->h'.get? a=some o
 freshX:∀a o,h.get? a=some o->w'.X a->w.X a
 freshW:∀a o,h.get? a=some o->w'.W a->w.W a
 stay:∀a o,h.get? a=some o->∃o',h'.get? a=some o'
 mono:∀a,w.X a->w'.X a
theorem Ext.refl (w:Wd) (h:Heap):Ext w h w h:=⟨λU U x=>x,λU U e U=>e,λU U U x=>x,λU U U x=>x,λU o e=>⟨o,e⟩,λU x=>x⟩
theorem Ext.trans {w₁ w₂ w₃:Wd} {h₁ h₂ h₃:Heap} (x:Ext w₁ h₁ w₂ h₂) (y:Ext w₂ h₂ w₃ h₃):Ext w₁ h₁ w₃ h₃ where
 eta p v e:=y.eta p v (x.eta p v e)
 keep a o e n:=y.keep a o (x.keep a o e n) λq=>n (x.freshW a o e q)
 freshX a o e q:=by obtain ⟨o',e'⟩:=x.stay a o e;exact x.freshX a o e (y.freshX a o' e' q)
 freshW a o e q:=by obtain ⟨o',e'⟩:=x.stay a o e;exact x.freshW a o e (y.freshW a o' e' q)
 stay a o e:=by obtain ⟨o',e'⟩:=x.stay a o e;exact y.stay a o' e'
 mono a h:=y.mono a (x.mono a h)
theorem Ext.grow {w:Wd} {h h':Heap} (k:∀a o,h.get? a=some o->h'.get? a=some o):Ext w h w h':=
 ⟨λU U x=>x,λU U e U=>k _ _ e,λU U U x=>x,λU U U x=>x,λU o e=>⟨o,k _ _ e⟩,λU x=>x⟩
theorem Ext.write {w:Wd} {h h':Heap} {b:Addr} (hb:w.W b) (k:Heap.SameBut b h h') (ho:∃o,h'.get? b=some o):Ext w h w h' where
 eta _ _ x:=x
 keep a o e n:=(k.2 a (λq=>n (q▸hb))).trans e
 freshX _ _ _ x:=x
 freshW _ _ _ x:=x
 stay a o e:=by
  by_cases q:a=b
  · exact q▸ho
  · exact ⟨o,(k.2 a q).trans e⟩
 mono _ x:=x
structure ExtR (w:Wd) (h:Heap) (w':Wd) (h':Heap):Prop where
 eta:∀p x,w.eta p=some x->w'.eta p=some x
 keep:∀a o,h.get? a=some o->¬w.X a->h'.get? a=some o
 freshX:∀a o,h.get? a=some o->w'.X a->w.X a
theorem Ext.r {w w':Wd} {h h':Heap} (E:Ext w h w' h'):ExtR w h w' h':=⟨E.eta,λa o e n=>E.keep a o e λq=>n (w.sub a q),E.freshX⟩
section
variable {Pm:Params} {w w':Wd} {h h':Heap}
theorem Rd.extR (E:ExtR w h w' h') {d:CD} {v:Value} (r:Rd Pm w h d v):Rd Pm w' h' d v:=
 Rd.rec (motive_1:=λd v U=>Rd Pm w' h' d v) (motive_2:=λd v U=>RdL Pm w' h' d v) (motive_3:=λd v U=>RdE Pm w' h' d v)
  .none .bool .int .str .bytes
  (λe c d n U r=>.tup (E.keep _ _ e n.1) c d ⟨λq=>n.1 (E.freshX _ _ e q),n.2⟩ r)
  (λe c d n U z r=>.lst (E.keep _ _ e n.1) c d ⟨λq=>n.1 (E.freshX _ _ e q),n.2⟩ r z)
  (λe c d n U u r=>.dic (E.keep _ _ e n.1) c d ⟨λq=>n.1 (E.freshX _ _ e q),n.2⟩ r u)
  (λe=>.loc (E.eta _ _ e)) .nil (λU U=>.cons) .nil (λk U U U=>.cons k) r
theorem RdL.extR (E:ExtR w h w' h') {d:List CD} {v:List Value} (r:RdL Pm w h d v):RdL Pm w' h' d v:=by
 induction v generalizing d with
 |nil=>cases r;exact .nil
 |cons x xs ih=>cases r with|cons a b=>exact .cons (Rd.extR E a) (ih b)
theorem RdE.extR (E:ExtR w h w' h') {d:List (CD×CD)} {v:List DictEntry} (r:RdE Pm w h d v):RdE Pm w' h' d v:=by
 induction v generalizing d with
 |nil=>cases r;exact .nil
 |cons x xs ih=>cases r with|cons k a b c=>exact .cons k (Rd.extR E a) (Rd.extR E b) (ih c)
theorem Rd.ext (E:Ext w h w' h') {d:CD} {v:Value} (r:Rd Pm w h d v):Rd Pm w' h' d v:=r.extR E.r
theorem RdL.ext (E:Ext w h w' h') {d:List CD} {v:List Value} (r:RdL Pm w h d v):RdL Pm w' h' d v:=r.extR E.r
theorem RdE.ext (E:Ext w h w' h') {d:List (CD×CD)} {v:List DictEntry} (r:RdE Pm w h d v):RdE Pm w' h' d v:=r.extR E.r
end
def Conc.K (ρ:Rho) (P:Prop) (x:AV) (d:CD):Prop:=match x with
 | .none=>(Unit->d=.none->P)->P
 | .bool b=>(Unit->d=.bool b->P)->P
 | .nat n=>(Unit->d=.int (n:Int)->P)->P
 | .neg n=>(Unit->d=.int (Int.negSucc n)->P)->P
 | .sym a k=>(Unit->d=.int (ρ.val a+(k:Int))->P)->P
 | .rng lo hi=>(∀i,d=.int i->(lo:Int)≤i->i≤(hi:Int)->P)->P
 | .any=>(∀i,d=.int i->P)->P
 | .sany=>(∀s,d=.str s->P)->P
 | .byt xs=>(∀bs,d=.bytes bs->ConcB ρ xs bs->P)->P
 | .tup xs=>(∀ds,d=.tup ds->ConcL ρ xs ds->P)->P
 | .lst xs=>(∀ds,d=.lst ds->ConcL ρ xs ds->P)->P
 | .dic xs=>(∀ds,d=.dic ds->ConcD ρ xs ds->P)->P
 | .loc p=>(Unit->d=.loc p->P)->P
 | .str _=>True
 |_=>P
theorem Conc.inv {ρ:Rho} {x:AV} {d:CD} (h:Conc ρ x d) {P:Prop}:Conc.K ρ P x d:=by
 cases h with
 |str=>exact trivial
 |none=>exact λk=>k () rfl
 |bool=>exact λk=>k () rfl
 |nat=>exact λk=>k () rfl
 |neg=>exact λk=>k () rfl
 |sym=>exact λk=>k () rfl
 |loc=>exact λk=>k () rfl
 |rng _ _ _ h1 h2=>exact λk=>k _ rfl h1 h2
 |any=>exact λk=>k _ rfl
 |sany=>exact λk=>k _ rfl
 |byt h=>exact λk=>k _ rfl h
 |tup h=>exact λk=>k _ rfl h
 |lst h=>exact λk=>k _ rfl h
 |dic h=>exact λk=>k _ rfl h
def ConcL.K (ρ:Rho) (P:Prop) (x:AV) (d:List CD):Prop:=match x with
 | .nil=>(Unit->d=[]->P)->P
 | .cons h t=>(∀a l,d=a::l->Conc ρ h a->ConcL ρ t l->P)->P
 |_=>P
theorem ConcL.inv {ρ:Rho} {x:AV} {d:List CD} (h:ConcL ρ x d) {P:Prop}:ConcL.K ρ P x d:=by
 cases h with
 |nil=>exact λk=>k () rfl
 |cons h1 h2=>exact λk=>k _ _ rfl h1 h2
def ConcB.K (ρ:Rho) (P:Prop) (x:AV) (d:List UInt8):Prop:=match x with
 | .nil=>(Unit->d=[]->P)->P
 | .cons h t=>(∀b l,d=b::l->Conc ρ h (.int (b.toNat:Int))->ConcB ρ t l->P)->P
 |_=>P
theorem ConcB.inv {ρ:Rho} {x:AV} {d:List UInt8} (h:ConcB ρ x d) {P:Prop}:ConcB.K ρ P x d:=by
 cases h with
 |nil=>exact λk=>k () rfl
 |cons h1 h2=>exact λk=>k _ _ rfl h1 h2
def ConcD.K (ρ:Rho) (P:Prop) (x:AV) (d:List (CD×CD)):Prop:=match x with
 | .nil=>(Unit->d=[]->P)->P
 | .dcons q v t=>(∀a b l,d=(a,b)::l->Conc ρ q a->Conc ρ v b->ConcD ρ t l->P)->P
 |_=>P
theorem ConcD.inv {ρ:Rho} {x:AV} {d:List (CD×CD)} (h:ConcD ρ x d) {P:Prop}:ConcD.K ρ P x d:=by
 cases h with
 |nil=>exact λk=>k () rfl
 |cons h1 h2 h3=>exact λk=>k _ _ _ rfl h1 h2 h3
def Rd.K (Pm:Params) (w:Wd) (h:Heap) (P:Prop) (d:CD) (v:Value):Prop:=match d with
 | .none=>(Unit->v=.none->P)->P
 | .bool b=>(Unit->v=.bool b->P)->P
 | .int i=>(∀t,v=.int i t->P)->P
 | .str s=>(∀t,v=.str s t->P)->P
 | .tup xs=>(∀a,v=.ref a->∀{o:Obj} {vs:Array Value} {n:Nat},h.get? a=some o->o.cls=.type "tuple"->o.data=.seq vs n->¬w.X a∧vs.size≤10000->RdL Pm w h xs vs.toList->P)->P
 | .lst xs=>(∀a,v=.ref a->∀{o:Obj} {vs:Array Value} {n:Nat},h.get? a=some o->o.cls=.type "list"->o.data=.seq vs n->¬w.X a∧vs.size≤10000->RdL Pm w h xs vs.toList->o.dict=.none->P)->P
 | .dic kvs=>(∀a,v=.ref a->∀{o:Obj} {es:Array DictEntry} {n:Nat},h.get? a=some o->o.ExactDict∧(a==sysModules)=false->o.data=.dict es n->¬w.X a∧es.size≤10000->RdE Pm w h kvs es.toList->(kvs.map (·.1)).Nodup->P)->P
 | .loc p=>(∀a,v=.ref a->∀{b:Addr},w.eta p=some (a,b)->P)->P
 | .bytes b=>(∀(a:Array UInt8) t,v=.bytes a t->b=a.toList->P)->P
theorem Rd.inv {Pm:Params} {w:Wd} {h:Heap} {d:CD} {v:Value} (r:Rd Pm w h d v) {P:Prop}:Rd.K Pm w h P d v:=by
 cases r with
 |bytes=>exact λk=>k _ _ rfl rfl
 |none=>exact λk=>k () rfl
 |bool=>exact λk=>k () rfl
 |int=>exact λk=>k _ rfl
 |str=>exact λk=>k _ rfl
 |tup h1 h2 h3 h4 h5=>exact λk=>k _ rfl h1 h2 h3 h4 h5
 |lst h1 h2 h3 h4 h5 h6=>exact λk=>k _ rfl h1 h2 h3 h4 h5 h6
 |dic h1 h2 h3 h4 h5 h6=>exact λk=>k _ rfl h1 h2 h3 h4 h5 h6
 |loc h1=>exact λk=>k _ rfl h1
def RdL.K (Pm:Params) (w:Wd) (h:Heap) (P:Prop) (d:List CD) (v:List Value):Prop:=match d with
 |[]=>(Unit->v=[]->P)->P
 |x::xs=>(∀a l,v=a::l->Rd Pm w h x a->RdL Pm w h xs l->P)->P
theorem RdL.inv {Pm:Params} {w:Wd} {h:Heap} {d:List CD} {v:List Value} (r:RdL Pm w h d v) {P:Prop}:RdL.K Pm w h P d v:=by
 cases r with
 |nil=>exact λk=>k () rfl
 |cons h1 h2=>exact λk=>k _ _ rfl h1 h2
def RdE.K (Pm:Params) (w:Wd) (h:Heap) (P:Prop) (d:List (CD×CD)) (v:List DictEntry):Prop:=match d with
 |[]=>(Unit->v=[]->P)->P
 |(q,x)::xs=>(∀a b l,v=⟨keyH Pm q,a,b⟩::l->q.key 6=true->Rd Pm w h q a->Rd Pm w h x b->RdE Pm w h xs l->P)->P
theorem RdE.inv {Pm:Params} {w:Wd} {h:Heap} {d:List (CD×CD)} {v:List DictEntry} (r:RdE Pm w h d v) {P:Prop}:RdE.K Pm w h P d v:=by
 cases r with
 |nil=>exact λk=>k () rfl
 |cons h1 h2 h3 h4=>exact λk=>k _ _ _ rfl h1 h2 h3 h4
@[elab_as_elim] noncomputable def onName {M:Expr->Type} (e:Expr) (d:∀e,M e) (k:∀n p,M (.Name n p)):M e:=by
 apply Expr.casesOn (motive_1:=M) e<;>intros<;>first|exact k ..|exact d _
@[elab_as_elim] noncomputable def onCall {M:Expr->Type} (e:Expr) (d:∀e,M e) (k:∀f a w p,M (.Call f a w p)):M e:=by
 apply Expr.casesOn (motive_1:=M) e<;>intros<;>first|exact k ..|exact d _
@[elab_as_elim] noncomputable def onAttr {M:Expr->Type} (e:Expr) (d:∀e,M e) (k:∀o n p,M (.Attribute o n p)):M e:=by
 apply Expr.casesOn (motive_1:=M) e<;>intros<;>first|exact k ..|exact d _
@[elab_as_elim] noncomputable def onConst {M:Expr->Type} (e:Expr) (d:∀e,M e) (k:∀q n p,M (.Constant q n p)):M e:=by
 apply Expr.casesOn (motive_1:=M) e<;>intros<;>first|exact k ..|exact d _
@[elab_as_elim] noncomputable def onTup {M:Expr->Type} (e:Expr) (d:∀e,M e) (k:∀l n p,M (.Tuple l n p)):M e:=by
 apply Expr.casesOn (motive_1:=M) e<;>intros<;>first|exact k ..|exact d _
@[elab_as_elim] noncomputable def onList {M:Expr->Type} (e:Expr) (d:∀e,M e) (k:∀l p,M (.List l p)):M e:=by
 apply Expr.casesOn (motive_1:=M) e<;>intros<;>first|exact k ..|exact d _
@[elab_as_elim] noncomputable def onSub {M:Expr->Type} (e:Expr) (d:∀e,M e) (k:∀o i p,M (.Subscript o i p)):M e:=by
 apply Expr.casesOn (motive_1:=M) e<;>intros<;>first|exact k ..|exact d _
@[elab_as_elim] noncomputable def onUn {M:Expr->Type} (e:Expr) (d:∀e,M e) (k:∀o e p,M (.UnaryOp o e p)):M e:=by
 apply Expr.casesOn (motive_1:=M) e<;>intros<;>first|exact k ..|exact d _
@[elab_as_elim] noncomputable def onLC {M:Expr->Type} (e:Expr) (d:∀e,M e) (k:∀e g s p,M (.ListComp e g s p)):M e:=by
 apply Expr.casesOn (motive_1:=M) e<;>intros<;>first|exact k ..|exact d _
@[elab_as_elim] noncomputable def onStar {M:Expr->Type} (e:Expr) (d:∀e,M e) (k:∀e p,M (.Starred e p)):M e:=by
 apply Expr.casesOn (motive_1:=M) e<;>intros<;>first|exact k ..|exact d _
@[elab_as_elim] noncomputable def onSlice {M:Expr->Type} (e:Expr) (d:∀e,M e) (k:∀l u s p,M (.Slice l u s p)):M e:=by
 apply Expr.casesOn (motive_1:=M) e<;>intros<;>first|exact k ..|exact d _
@[elab_as_elim] noncomputable def onSet {M:Expr->Type} (e:Expr) (d:∀e,M e) (k:∀l n p,M (.Set l n p)):M e:=by
 apply Expr.casesOn (motive_1:=M) e<;>intros<;>first|exact k ..|exact d _
@[elab_as_elim] noncomputable def onSC {M:Expr->Type} (e:Expr) (d:∀e,M e) (k:∀e g s p,M (.SetComp e g s p)):M e:=by
 apply Expr.casesOn (motive_1:=M) e<;>intros<;>first|exact k ..|exact d _
@[elab_as_elim] noncomputable def onDC {M:Expr->Type} (e:Expr) (d:∀e,M e) (k:∀k v g s p,M (.DictComp k v g s p)):M e:=by
 apply Expr.casesOn (motive_1:=M) e<;>intros<;>first|exact k ..|exact d _
@[elab_as_elim] noncomputable def onCmp {M:Expr->Type} (e:Expr) (d:∀e,M e) (k:∀l o r p,M (.Compare l o r p)):M e:=by
 apply Expr.casesOn (motive_1:=M) e<;>intros<;>first|exact k ..|exact d _
@[elab_as_elim] noncomputable def onBool {M:Expr->Type} (e:Expr) (d:∀e,M e) (k:∀o l p,M (.BoolOp o l p)):M e:=by
 apply Expr.casesOn (motive_1:=M) e<;>intros<;>first|exact k ..|exact d _
theorem nS {α:Type} {a:α} {P:Prop} (h:none=some a):P:=nomatch h
theorem nM {α:Type} {a:α} {P:Prop} (h:a∈[]):P:=nomatch h
@[elab_as_elim] theorem ConcL.ind {ρ:Rho} {P:∀x d,ConcL ρ x d->Prop} (nil:P .nil [] .nil) (cons:∀{a t d l} (h:Conc ρ a d) (r:ConcL ρ t l),P t l r->P _ _ (.cons h r)) {x:AV} {d:List CD} (h:ConcL ρ x d):P x d h:=
 by apply ConcL.rec (motive_1:=λU U U=>True) (motive_2:=P) (motive_3:=λU U U=>True) (motive_4:=λU U U=>True)<;>first|exact nil|exact λa b U h=>cons a b h|(intros;trivial)
@[elab_as_elim] theorem ConcB.ind {ρ:Rho} {P:∀x d,ConcB ρ x d->Prop} (nil:P .nil [] .nil) (cons:∀{a t d l} (h:Conc ρ a (.int (UInt8.toNat d:Int))) (r:ConcB ρ t l),P t l r->P _ _ (.cons h r)) {x:AV} {d:List UInt8} (h:ConcB ρ x d):P x d h:=
 by apply ConcB.rec (motive_1:=λU U U=>True) (motive_2:=λU U U=>True) (motive_3:=P) (motive_4:=λU U U=>True)<;>first|exact nil|exact λa b U h=>cons a b h|(intros;trivial)
@[elab_as_elim] theorem ConcD.ind {ρ:Rho} {P:∀x d,ConcD ρ x d->Prop} (nil:P .nil [] .nil) (cons:∀{q v t a b l} (h:Conc ρ q a) (g:Conc ρ v b) (r:ConcD ρ t l),P t l r->P _ _ (.cons h g r)) {x:AV} {d:List (CD×CD)} (h:ConcD ρ x d):P x d h:=
 by apply ConcD.rec (motive_1:=λU U U=>True) (motive_2:=λU U U=>True) (motive_3:=λU U U=>True) (motive_4:=P)<;>first|exact nil|exact λa b c U U h=>cons a b c h|(intros;trivial)
@[elab_as_elim] theorem RdL.ind {Pm:Params} {w:Wd} {h:Heap} {P:∀x d,RdL Pm w h x d->Prop} (nil:P [] [] .nil) (cons:∀{a t d l} (g:Rd Pm w h a d) (r:RdL Pm w h t l),P t l r->P _ _ (.cons g r)) {x:List CD} {d:List Value} (g:RdL Pm w h x d):P x d g:=
 by apply RdL.rec (motive_1:=λU U U=>True) (motive_2:=P) (motive_3:=λU U U=>True)<;>first|exact nil|exact λa b U h=>cons a b h|(intros;trivial)
@[elab_as_elim] theorem RdE.ind {Pm:Params} {w:Wd} {h:Heap} {P:∀x d,RdE Pm w h x d->Prop} (nil:P [] [] .nil) (cons:∀{q v t kv vv l} (k:CD.key 6 q=true) (a:Rd Pm w h q kv) (b:Rd Pm w h v vv) (r:RdE Pm w h t l),P t l r->P _ _ (.cons k a b r)) {x:List (CD×CD)} {d:List DictEntry} (g:RdE Pm w h x d):P x d g:=
 by apply RdE.rec (motive_1:=λU U U=>True) (motive_2:=λU U U=>True) (motive_3:=P)<;>first|exact nil|exact λk a b r U U h=>cons k a b r h|(intros;trivial)
theorem fF {P:Prop} (h:false=true):P:=nomatch h
theorem ifp {α:Type} {M:Model} {A:Around} {p:Prop} [Decidable p] {x y:Sem α} {Q:α->Shared->Prop} {E:Value->Shared->Prop} {σ:Shared} (h:p) (k:wpAny M A x Q E σ):wpAny M A (if p then x else y) Q E σ:=by rw[if_pos h];exact k
theorem ifn {α:Type} {M:Model} {A:Around} {p:Prop} [Decidable p] {x y:Sem α} {Q:α->Shared->Prop} {E:Value->Shared->Prop} {σ:Shared} (h:¬p) (k:wpAny M A y Q E σ):wpAny M A (if p then x else y) Q E σ:=by rw[if_neg h];exact k
mutual
noncomputable def CD.py:CD->PyData
 | .bool b=>.bool b
 | .int i=>.int i
 | .str s=>.str s
 | .tup xs=>.tuple (CD.pys xs)
 | .lst xs=>.list (CD.pys xs)
 | .none=>.none
 | .bytes _=>.dict []
 | .dic _=>.dict []
 | .loc _=>.dict []
noncomputable def CD.pys:List CD->List PyData
 |[]=>[]
 |x::xs=>CD.py x::CD.pys xs
end
noncomputable def CD.plainF (f:List CD->Bool) (d:CD):Bool:=CD.casesOn (motive_1:=λU=>Bool) d true (λU=>true) (λU=>true) okS (λU=>false) f f (λU=>false) (λU=>false)
noncomputable def CD.plainL (n:Nat):List CD->Bool:=Nat.rec (motive:=λU=>List CD->Bool) (λU=>false) (λU f xs=>xs.all (CD.plainF f)) n
noncomputable def CD.plain (n:Nat):CD->Bool:=CD.plainF (CD.plainL n)
theorem CD.keyF_plain {f g:List CD->Bool} (k:∀xs,f xs=true->g xs=true) {d:CD} (h:d.keyF f=true):d.plainF g=true:=by
 cases d with
 |tup xs=>exact k xs h
 |_=>first|rfl|exact h|exact fF h
theorem CD.key_plain (n:Nat) (d:CD) (h:d.key n=true):d.plain n=true:=by
 induction n generalizing d with
 |zero=>exact CD.keyF_plain (λU h=>h) h
 |succ n ih=>exact CD.keyF_plain (λxs h=>List.all_eq_true.mpr λx hx=>ih x (List.all_eq_true.mp h x hx)) h
section
variable {Pm:Params} {w:Wd} {h:Heap}
theorem RdL.readsOf {P:CD->Bool} (f:∀d v,P d=true->Rd Pm w h d v->∃as,Reads h v d.py as) {d:List CD} {v:List Value} (r:RdL Pm w h d v) (p:d.all P=true):∃as,ReadsAll h v (CD.pys d) as:=by
 induction d generalizing v with
 |nil=>cases r;exact ⟨_,.nil⟩
 |cons x xs ih=>
  cases r with
  |cons a b=>
   rw[List.all_cons,Bool.and_eq_true] at p
   obtain ⟨as,x⟩:=f _ _ p.1 a
   obtain ⟨bs,y⟩:=ih b p.2
   exact ⟨_,.cons x y⟩
theorem Rd.readsF {f:List CD->Bool} (g:∀xs vs,f xs=true->RdL Pm w h xs vs->∃as,ReadsAll h vs (CD.pys xs) as) {d:CD} {v:Value} (p:d.plainF f=true) (r:Rd Pm w h d v):∃as,Reads h v d.py as:=by
 cases r with
 |none=>exact ⟨_,.none⟩
 |bool b=>exact ⟨_,.bool b⟩
 |int i t=>exact ⟨_,.int i t⟩
 |str s t=>exact ⟨_,.str s t⟩
 |tup e c d _ r=>obtain ⟨as,x⟩:=g _ _ p r;exact ⟨_,.tuple e c d x⟩
 |lst e c d _ r _=>obtain ⟨as,x⟩:=g _ _ p r;exact ⟨_,.list e c d x⟩
 |_=>exact fF p
theorem Rd.reads (n:Nat) (d:CD) (v:Value) (p:d.plain n=true) (r:Rd Pm w h d v):∃as,Reads h v d.py as:=by
 induction n generalizing d v with
 |zero=>exact Rd.readsF (λU U p=>fF p) p r
 |succ n ih=>exact Rd.readsF (λU U p r=>RdL.readsOf ih r p) p r
end
theorem okS_strOk {s:Str} (h:okS s=true):PyData.strOk s=true:=by
 unfold okS at h
 unfold PyData.strOk
 rw[List.all_eq_true] at h
 rw[← Array.all_toList,List.all_eq_true]
 intro c hc
 have:=h c hc
 have h':c<256:=by simpa[Nat.blt_eq] using this
 exact decide_eq_true (by omega)
theorem plain_layF {f:List CD->Bool} {n:Nat} (g:∀xs,f xs=true->PyData.canLayAll0 (CD.pys xs)=true∧PyData.depthAll (CD.pys xs)+1≤n) {d:CD} (p:d.plainF f=true):d.py.canLay0=true∧d.py.depth≤n:=by
 cases d with
 |tup xs=>exact ⟨(g xs p).1,(g xs p).2⟩
 |lst xs=>exact ⟨(g xs p).1,(g xs p).2⟩
 |str s=>exact ⟨okS_strOk p,Nat.zero_le _⟩
 |_=>first|exact ⟨rfl,Nat.zero_le _⟩|exact fF p
theorem plain_layL (n:Nat) (f:∀d:CD,d.plain n=true->d.py.canLay0=true∧d.py.depth≤n) (xs:List CD) (p:xs.all (CD.plain n)=true):PyData.canLayAll0 (CD.pys xs)=true∧PyData.depthAll (CD.pys xs)≤n:=by
 induction xs with
 |nil=>exact ⟨rfl,Nat.zero_le _⟩
 |cons x xs ih=>
  rw[List.all_cons,Bool.and_eq_true] at p
  have a:=f x p.1
  have b:=ih p.2
  exact ⟨Bool.and_eq_true_iff.mpr ⟨a.1,b.1⟩,Nat.max_le.mpr ⟨a.2,b.2⟩⟩
theorem plain_lay (n:Nat) (d:CD) (p:d.plain n=true):d.py.canLay0=true∧d.py.depth≤n:=by
 induction n generalizing d with
 |zero=>exact plain_layF (λU p=>fF p) p
 |succ n ih=>exact plain_layF (λxs p=>⟨(plain_layL n ih xs p).1,Nat.succ_le_succ (plain_layL n ih xs p).2⟩) p
theorem key_eqvF {f g:List CD->Bool} (k:∀xs ys,f xs=true->g ys=true->(PyData.eqvAll (CD.pys xs) (CD.pys ys)=true↔xs=ys)) {a b:CD} (p:a.keyF f=true) (q:b.keyF g=true):PyData.eqv a.py b.py=true↔a=b:=by
 cases a<;>try exact fF p
 all_goals cases b<;>try exact fF q
 all_goals first|exact ⟨λh=>fF h,λh=>CD.noConfusion h⟩|exact beq_iff_eq.trans ⟨congrArg _,λh=>by injection h⟩|exact (k _ _ p q).trans ⟨congrArg _,λh=>by injection h⟩
theorem key_eqvL (n m:Nat) (f:∀a b:CD,a.key n=true->b.key m=true->(PyData.eqv a.py b.py=true↔a=b)) (xs ys:List CD) (p:xs.all (CD.key n)=true) (q:ys.all (CD.key m)=true):PyData.eqvAll (CD.pys xs) (CD.pys ys)=true↔xs=ys:=by
 induction xs generalizing ys with
 |nil=>cases ys with
  |nil=>exact ⟨λU=>rfl,λU=>rfl⟩
  |cons=>exact ⟨λh=>fF h,λh=>by injection h⟩
 |cons x xs ih=>
  cases ys with
  |nil=>exact ⟨λh=>fF h,λh=>by injection h⟩
  |cons y ys=>
   rw[List.all_cons,Bool.and_eq_true] at p q
   exact Bool.and_eq_true_iff.trans ⟨λh=>by rw[(f x y p.1 q.1).mp h.1,(ih ys p.2 q.2).mp h.2],λh=>by injection h with h1 h2;exact ⟨(f x y p.1 q.1).mpr h1,(ih ys p.2 q.2).mpr h2⟩⟩
theorem key_eqv (n:Nat) (a b:CD) (m:Nat) (p:a.key n=true) (q:b.key m=true):PyData.eqv a.py b.py=true↔a=b:=by
 induction n generalizing a b m with
 |zero=>exact key_eqvF (λU U p=>fF p) p q
 |succ n ih=>
  cases m with
  |zero=>exact key_eqvF (λU U U q=>fF q) p q
  |succ m=>exact key_eqvF (key_eqvL n m λa b=>ih a b m) p q
section
variable {prog:Program} {wo:World} {w:Wd} {A:Around} {E:Value->Shared->Prop} {σ:Shared}
theorem eqBool_key {a b:CD} {u v:Value} {n:Nat} {Q:Bool->Shared->Prop} (ha:a.key n=true) (hb:b.key n=true) (ra:Rd wo.params w σ.heap a u) (rb:Rd wo.params w σ.heap b v) (hu:A.units+n<cLine)
  (h:∀c:Bool,(c=true↔a=b)->Q c σ):wpAny (model prog wo) A (eqBool u v) Q E σ:=by
 obtain ⟨as,x⟩:=Rd.reads n a u (CD.key_plain n a ha) ra
 obtain ⟨bs,y⟩:=Rd.reads n b v (CD.key_plain n b hb) rb
 have la:=plain_lay n a (CD.key_plain n a ha)
 have lb:=plain_lay n b (CD.key_plain n b hb)
 exact SeqAt.eqBoolOverData prog wo A E σ u v a.py b.py as bs Q x y la.1 lb.1 (Nat.lt_of_le_of_lt (Nat.add_le_add_left (Nat.le_trans (Nat.min_le_left _ _) la.2) _) hu) (h _ (key_eqv n a b n ha hb))
theorem pyHash_key:∀(n:Nat) (d:CD) (v:Value) (A:Around) (σ:Shared) (Q:Int->Shared->Prop),d.key n=true->Rd wo.params w σ.heap d v->A.units+n<cLine->
  (∀tk,Q (keyH wo.params d) {σ with toks:=tk})->wpAny (model prog wo) A (pyHash v) Q E σ:=by
 intro n
 induction n with
 |zero=>
  intro d v A σ Q hk r hu h
  cases r with
  |int i t=>exact wpAny_pyHash_int (h (σ.toks+1))
  |str s t=>exact wpAny_pyHash_str (h (σ.toks+1))
  |_=>exact fF hk
 |succ n ih=>
  intro d v A σ Q hk r hu h
  cases r with
  |int i t=>exact wpAny_pyHash_int (h (σ.toks+1))
  |str s t=>exact wpAny_pyHash_str (h (σ.toks+1))
  |@tup a o vs m xs e c dd nx rs=>
   change List.all _ (CD.key _)=true at hk
   refine pyHash_slot (T:="tuple") ⟨_,e,c⟩ F.slot_tuple_hash F.entry_tuple_hash (F.args_tuple_hash_1 _) (beq_builtin_none _) (.inr (by omega)) ?_
   show wpAny _ _ (Builtin.Tuple.tupleItemsOf (.ref a)>>= _) _ _ σ
   refine wpAny_bind (wpAny_tupleItemsOf e dd ?_)
   refine wpAny_bind ?_
   rw[← Array.forIn_toList]
   have loop:∀(xs:List CD) (vs:List Value) (σ:Shared) (b:Array Int) (Q:Array Int->Shared->Prop),xs.all (CD.key n)=true->RdL wo.params w σ.heap xs vs->
     (∀tk b',b'.toList=b.toList++keyHs wo.params xs->Q b' {σ with toks:=tk})->
     wpAny (model prog wo) A.in1 (forIn vs b λx r=>do let h ←pyHash x;pure PUnit.unit;pure (ForInStep.yield (r.push h))) Q E σ:=by
    intro xs
    induction xs with
    |nil=>intro vs σ b Q _ x h;cases x;exact wpAny_pure (h σ.toks b (List.append_nil _).symm)
    |cons k xs ih2=>
     intro vs σ b Q hk x h
     cases x with
     |cons x1 x2=>
      simp only[List.all_cons,Bool.and_eq_true] at hk
      rw[List.forIn_cons]
      refine wpAny_bind (wpAny_bind (ih k _ A.in1 σ _ hk.1 x1 (by show A.units+1+n<cLine;omega) λtk=>?_))
      refine wpAny_bind (wpAny_pure (wpAny_pure ?_))
      exact ih2 _ _ _ Q hk.2 x2 λtk' b' hb=>h tk' b' (by rw[hb,Array.toList_push,List.append_assoc];rfl)
   refine loop xs vs.toList σ #[] _ hk rs λtk b hb=>?_
   show wpAny _ _ (retInt (Builtin.Tuple.tupleHashOf b.toList)) _ _ _
   rw[hb]
   refine wpAny_bind (wpAny_mkInt (wpAny_pure ⟨_,_,rfl,?_⟩))
   exact h (tk+1)
  |_=>exact fF hk
theorem quiet_key:∀(n:Nat) (d:CD) (v:Value) (A:Around) (σ:Shared) (Q:Bool->Shared->Prop) (m:Nat),d.key n=true->n≤m->Rd wo.params w σ.heap d v->Q true σ->wpAny (model prog wo) A (eqIsQuiet m v) Q E σ:=by
 intro n
 induction n with
 |zero=>
  intro d v A σ Q m hk hm r h
  cases r with
  |int i t=>rw[eqIsQuiet_byValue _ rfl];exact wpAny_pure h
  |str s t=>rw[eqIsQuiet_byValue _ rfl];exact wpAny_pure h
  |_=>exact fF hk
 |succ n ih=>
  intro d v A σ Q m hk hm r h
  cases r with
  |int i t=>rw[eqIsQuiet_byValue _ rfl];exact wpAny_pure h
  |str s t=>rw[eqIsQuiet_byValue _ rfl];exact wpAny_pure h
  |@tup a o vs k xs e c dd nx rs=>
   obtain ⟨m',rfl⟩:∃m',m=m'+1:=⟨m-1,by omega⟩
   change List.all _ (CD.key _)=true at hk
   have hT:σ.TypeIs (.ref a) "tuple":=⟨o,e,c⟩
   unfold eqIsQuiet
   refine wpAny_bind (wpAny_specialOf hT F.slot_tuple_eq.lookup ?_)
   show wpAny _ _ (isInstance (.ref a) (.type "tuple")>>= _) _ _ σ
   refine wpAny_bind (wpAny_isInstance hT isSubtype_tuple_tuple ?_)
   refine ifn Bool.false_ne_true ?_
   refine wpAny_bind (wpAny_seqItems e dd ?_)
   refine wpAny_bind ?_
   show wpAny _ _ (forIn vs _ _) _ _ σ
   rw[← Array.forIn_toList]
   refine wpAny_forIn_list _ (λrest r s'=>r.1=none∧s'=σ∧∃ds,ds.all (CD.key n)=true∧RdL wo.params w σ.heap ds rest) _ ?_ ?_ _ _ ⟨rfl,rfl,xs,hk,rs⟩
   · intro v rest r s' h9;obtain ⟨hr,rfl,ds,hd,hl⟩:=h9
     cases hl with
     |cons x1 x2=>
      simp only[List.all_cons,Bool.and_eq_true] at hd
      refine wpAny_bind (ih _ _ A s' _ m' hd.1 (by omega) x1 ?_)
      refine ifn Bool.false_ne_true ?_
      exact wpAny_pure ⟨rfl,rfl,_,hd.2,x2⟩
   · rintro ⟨r1,r2⟩ s' ⟨hr,rfl,_⟩
     simp only at hr
     subst hr
     exact wpAny_pure h
  |_=>exact fF hk
end
section
variable {Pm:Params} {w:Wd} {h:Heap}
theorem key_injF {f g:List CD->Bool} (k:∀xs ys vs,f xs=true->g ys=true->RdL Pm w h xs vs->RdL Pm w h ys vs->xs=ys) {a b:CD} {v:Value} (p:a.keyF f=true) (q:b.keyF g=true) (ra:Rd Pm w h a v) (rb:Rd Pm w h b v):a=b:=by
 cases a with
 |int i=>refine ra.inv λt e=>?_;subst e;cases b with
  |int j=>exact rb.inv λt e=>by injection e with e;rw[e]
  |str s=>exact rb.inv λt e=>nomatch e
  |tup xs=>exact rb.inv λt e=>nomatch e
  |_=>exact fF q
 |str s=>refine ra.inv λt e=>?_;subst e;cases b with
  |int j=>exact rb.inv λt e=>nomatch e
  |str s=>exact rb.inv λt e=>by injection e with e;rw[e]
  |tup xs=>exact rb.inv λt e=>nomatch e
  |_=>exact fF q
 |tup xs=>refine ra.inv λa e=>?_;subst e;intro o vs n e1 e2 e3 e4 r;cases b with
  |int j=>exact rb.inv λt e=>nomatch e
  |str s=>exact rb.inv λt e=>nomatch e
  |tup ys=>
   refine rb.inv λa e=>?_
   injection e with e
   subst e
   intro o' vs' n' e1' e2' e3' e4' r'
   have e:=Option.some.inj (e1.symm.trans e1')
   subst e
   have e:=e3.symm.trans e3'
   injection e with e
   subst e
   rw[k _ _ _ p q r r']
  |_=>exact fF q
 |_=>exact fF p
theorem key_injL (n m:Nat) (f:∀(a b:CD) (v:Value),a.key n=true->b.key m=true->Rd Pm w h a v->Rd Pm w h b v->a=b) (xs ys:List CD) (vs:List Value) (p:xs.all (CD.key n)=true) (q:ys.all (CD.key m)=true) (r:RdL Pm w h xs vs) (s:RdL Pm w h ys vs):xs=ys:=by
 induction xs generalizing ys vs with
 |nil=>refine r.inv λu e=>?_;subst e;cases s;rfl
 |cons x xs ih=>
  cases r with
  |cons r1 r2=>
   cases s with
   |cons s1 s2=>
    rw[List.all_cons,Bool.and_eq_true] at p q
    rw[f _ _ _ p.1 q.1 r1 s1,ih _ _ p.2 q.2 r2 s2]
theorem key_inj (n:Nat) (a b:CD) (v:Value) (m:Nat) (p:a.key n=true) (q:b.key m=true) (ra:Rd Pm w h a v) (rb:Rd Pm w h b v):a=b:=by
 induction n generalizing a b v m with
 |zero=>exact key_injF (λU U U p=>fF p) p q ra rb
 |succ n ih=>
  cases m with
  |zero=>exact key_injF (λU U U U q=>fF q) p q ra rb
  |succ m=>exact key_injF (key_injL n m λa b v=>ih a b v m) p q ra rb
theorem RdE.length {kvs:List (CD×CD)} {es:List DictEntry} (r:RdE Pm w h kvs es):es.length=kvs.length:=RdE.ind rfl (λU U U U e=>congrArg (·+1) e) r
theorem RdE.get {kvs:List (CD×CD)} {es:List DictEntry} (j:Nat) (e:DictEntry) (r:RdE Pm w h kvs es) (q:es[j]?=some e):
  ∃k v,kvs[j]?=some (k,v)∧k.key 6=true∧e.hash=keyH Pm k∧Rd Pm w h k e.key∧Rd Pm w h v e.val:=by
 induction r using RdE.ind generalizing j with
 |nil=>exact nS q
 |cons a b c r ih=>cases j with
  |zero=>cases q;exact ⟨_,_,rfl,a,rfl,b,c⟩
  |succ j=>exact ih j q
theorem nodup_idx {kvs:List (CD×CD)} (nd:(kvs.map (·.1)).Nodup) {i j:Nat} {k v v':CD} (hi:kvs[i]?=some (k,v)) (hj:kvs[j]?=some (k,v')):i=j:=by
 have hi':(kvs.map (·.1))[i]?=some k:=by rw[List.getElem?_map,hi];rfl
 have hj':(kvs.map (·.1))[j]?=some k:=by rw[List.getElem?_map,hj];rfl
 exact (List.getElem?_inj (List.getElem?_eq_some_iff.mp hi').1 nd).mp (hi'.trans hj'.symm)
end
theorem isStr_inv:∀{v:Value} {x:Str},v.isStr x=true->∃t,v=.str x t
 | .str s t,x,h=>⟨t,by
   have:(s==x)=true:=h
   rw[eq_of_beq this]⟩
 | .none,_,h=>fF h
 | .ellipsis,_,h=>fF h
 | .notImplemented,_,h=>fF h
 | .bool _,_,h=>fF h
 | .int _ _,_,h=>fF h
 | .float _ _,_,h=>fF h
 | .bytes _ _,_,h=>fF h
 | .type _,_,h=>fF h
 | .builtin _,_,h=>fF h
 | .ref _,_,h=>fF h
section
variable {prog:Program} {wo:World} {w:Wd} {A:Around} {E:Value->Shared->Prop} {σ:Shared}
theorem tableMayTell_key {k:CD} {kv:Value} {stored:List Value} {Q:Bool->Shared->Prop} (hk:k.key 6=true) (rk:Rd wo.params w σ.heap k kv)
  (hst:∀v∈stored,∃k',CD.key 6 k'=true∧Rd wo.params w σ.heap k' v) (h:Q false σ):wpAny (model prog wo) A (tableMayTell kv stored) Q E σ:=by
 unfold tableMayTell
 split
 · exact wpAny_pure h
 · refine wpAny_bind (quiet_key 6 k kv A σ _ 8 hk (by decide) rk ?_)
   refine ifn Bool.false_ne_true ?_
   refine wpAny_bind ?_
   refine wpAny_forIn_list _ (λrest r s'=>s'=σ∧r=(none,())∧∀v∈rest,∃k',CD.key 6 k'=true∧Rd wo.params w σ.heap k' v) _ ?_ ?_ _ _ ⟨rfl,rfl,hst⟩
   · rintro x rest r s' ⟨rfl,rfl,hr⟩
     obtain ⟨k',hk',hb⟩:=hr x List.mem_cons_self
     refine wpAny_bind (quiet_key 6 k' x A s' _ 8 hk' (by decide) hb ?_)
     refine ifn Bool.false_ne_true ?_
     exact wpAny_pure ⟨rfl,rfl,λv hv=>hr v (List.mem_cons_of_mem _ hv)⟩
   · rintro r s' ⟨rfl,rfl,_⟩
     exact wpAny_pure h
set_option tactic.hygienic true in
theorem dictFind_key {d:Addr} {o:Obj} {es:Array DictEntry} {ep:Nat} {kvs:List (CD×CD)} {k:CD} {kv:Value} {Q:Option Nat->Shared->Prop} (hu:A.units+6<cLine) (hk:k.key 6=true)
  (rk:Rd wo.params w σ.heap k kv) (ho:σ.heap.get? d=some o) (hd:o.data=.dict es ep) (re:RdE wo.params w σ.heap kvs es.toList) (nd:(kvs.map (·.1)).Nodup)
  (hnone:(∀(j:Nat) (v:CD),kvs[j]?≠some (k,v))->Q none σ) (hsome:∀(j:Nat) (v:CD),kvs[j]?=some (k,v)->Q (some j) σ):
  wpAny (model prog wo) A (dictFind d kv (keyH wo.params k)) Q E σ:=by
 have at':∀(j:Nat) (hj:j<es.size),∃k' v,kvs[j]?=some (k',v)∧k'.key 6=true∧es[j].hash=keyH wo.params k'∧Rd wo.params w σ.heap k' es[j].key∧Rd wo.params w σ.heap v es[j].val:=
  λj hj=>RdE.get j es[j] re (by simp[hj])
 have hsz:es.size=kvs.length:=by have:=re.length;simpa using this
 have haskey:∀(j:Nat) (v:CD),kvs[j]?=some (k,v)->((es[j]?.map (·.hash))==some (keyH wo.params k))=true:=by
  intro j v hj
  have hlt:j<es.size:=by
   rw[hsz]
   rcases Nat.lt_or_ge j kvs.length with q|q
   · exact q
   · rw[List.getElem?_eq_none q] at hj;cases hj
  obtain ⟨k',v',h1,_,h2,_⟩:=at' j hlt
  rw[hj] at h1
  cases h1
  rw[Array.getElem?_eq_getElem hlt]
  simp[h2]
 have stored:∀v∈(placesWithHash es.size (λi=>es[i]?.map (·.hash)) (keyH wo.params k)).filterMap (λi=>es[i]?.map (·.key)),∃k',CD.key 6 k'=true∧Rd wo.params w σ.heap k' v:=by
  intro v hv
  obtain ⟨i,_,hi⟩:=List.mem_filterMap.mp hv
  by_cases hlt:i<es.size
  · rw[Array.getElem?_eq_getElem hlt] at hi
    obtain rfl:es[i].key=v:=by simpa using hi
    obtain ⟨k',v',h1,h2,_,h3,_⟩:=at' i hlt
    exact ⟨k',h2,h3⟩
  · rw[Array.getElem?_eq_none (Nat.le_of_not_lt hlt)] at hi;cases hi
 have plainW:wpAny (model prog wo) A (dictWalkPlain d kv (keyH wo.params k) es (placesWithHash es.size (λi=>es[i]?.map (·.hash)) (keyH wo.params k))) Q E σ:=by
  refine wpAny_bind ?_
  refine wpAny_forIn_list _
   (λrest b s'=>s'=σ∧b=(none,())∧∃i,rest=(List.range' i (es.size-i)).filter (λi=>(es[i]?.map (·.hash))==some (keyH wo.params k))∧i≤es.size∧
     ∀j v,j<i->kvs[j]?≠some (k,v)) _ ?_ ?_ _ _
   ⟨rfl,rfl,0,by rw[placesWithHash,List.range_eq_range',Nat.sub_zero],Nat.zero_le _,λU U h=>absurd h (Nat.not_lt_zero _)⟩
  · intro x rest b s' h9;obtain ⟨rfl,rfl,i,hr,hi,hno⟩:=h9
    obtain ⟨hix,hxn,hpx,hskip,hrest⟩:=filter_range'_cons _ _ _ _ _ hr.symm
    have hlt:x<es.size:=by omega
    obtain ⟨k',v',h1,h2,h3,h4,_⟩:=at' x hlt
    have hnext:¬k'=k->∃i,rest=(List.range' i (es.size-i)).filter (λi=>(es[i]?.map (·.hash))==some (keyH wo.params k))∧i≤es.size∧∀j v,j<i->kvs[j]?≠some (k,v):=λhne=>
     ⟨x+1,by rw[hrest];congr 2;omega,hlt,λj v hji hj=>by
      rcases Nat.lt_or_ge j i with q|q
      · exact hno j v q hj
      · rcases Nat.lt_or_ge j x with q'|q'
        · have:=hskip j q q'
          rw[haskey j v hj] at this
          cases this
        · have:j=x:=by omega
          subst this
          rw[h1] at hj
          cases hj
          exact hne rfl⟩
    simp only[Array.getElem?_eq_getElem hlt]
    by_cases hh:(es[x].hash==keyH wo.params k)=true
    · rw[if_pos hh]
      refine wpAny_bind (wpAny_dictEpoch ho hd (wpAny_bind (eqBool_key h2 hk h4 rk hu λc hc=>wpAny_bind (wpAny_dictEpoch ho hd ?_))))
      show wpAny _ _ (if (ep != ep)=true then _ else _) _ E _
      rw[if_neg (by simp)]
      cases c with
      |true=>
       obtain rfl:=hc.mp rfl
       exact wpAny_bind (wpAny_rule (wpAny_pure (wpAny_pure (hsome x v' h1))))
      |false=>exact wpAny_bind (wpAny_rule (wpAny_pure ⟨rfl,rfl,hnext λq=>by cases hc.mpr q⟩))
    · rw[if_neg hh]
      refine wpAny_pure ⟨rfl,rfl,hnext ?_⟩
      intro hkk
      rw[h3,hkk] at hh;simp at hh
  · intro b s' h9;obtain ⟨rfl,rfl,i,hr,hi,hno⟩:=h9
    refine wpAny_pure (hnone λj v hj=>?_)
    have hlt:j<es.size:=by
     rw[hsz]
     rcases Nat.lt_or_ge j kvs.length with q|q
     · exact q
     · rw[List.getElem?_eq_none q] at hj;cases hj
    rcases Nat.lt_or_ge j i with q|q
    · exact hno j v q hj
    · have:=List.filter_eq_nil_iff.mp hr.symm j (List.mem_range'_1.mpr ⟨q,by omega⟩)
      exact this (haskey j v hj)
 have hany:(∃a,kv=.ref a)->¬(es.any λe=>e.key==kv&&e.hash != keyH wo.params k)=true:=by
  rintro ⟨a,rfl⟩
  rw[← Array.any_toList,List.any_eq_true]
  rintro ⟨e,hin,hc⟩
  obtain ⟨j,hj,rfl⟩:=Array.mem_iff_getElem.mp (Array.mem_toList_iff.mp hin)
  obtain ⟨k',v',h1,h2,h3,h4,_⟩:=at' j hj
  simp only[Bool.and_eq_true,beq_iff_eq,bne_iff_ne,ne_eq] at hc
  obtain ⟨hxa,hne⟩:=hc
  rw[hxa] at h4
  exact hne (by rw[h3,key_inj 6 _ _ _ 6 h2 hk h4 rk])
 have hpl:∀x t,kv=.str x t->∀j (hj:j<es.size),es[j].key.isStr x=true->∃v,kvs[j]?=some (k,v):=by
  intro x t hx j hj hi
  obtain ⟨k',v',h1,h2,h3,h4,_⟩:=at' j hj
  obtain ⟨u,hu'⟩:=isStr_inv hi
  rw[hu'] at h4
  rw[hx] at rk
  cases h4
  cases rk
  exact ⟨v',h1⟩
 unfold dictFind
 try with_reducible refine wpAny_holding ?_
 refine wpAny_bind (wpAny_dictEntries ho hd ?_)
 have road1:∀x t,kv=.str x t->wpAny (model prog wo) A (foundByValue d kv es x) Q E σ:=by
  intro x t hkv
  unfold foundByValue
  cases hf:es.findIdx? (λe=>e.key.isStr x) with
  |none=>
   refine wpAny_pure (hnone λj v hj=>?_)
   have hlt:j<es.size:=by
    rw[hsz]
    rcases Nat.lt_or_ge j kvs.length with q|q
    · exact q
    · rw[List.getElem?_eq_none q] at hj;cases hj
   obtain ⟨k',v',h1,h2,h3,h4,_⟩:=at' j hlt
   rw[hj] at h1
   cases h1
   have:=Array.findIdx?_eq_none_iff.mp hf es[j] (Array.getElem_mem hlt)
   have hek:∃u,es[j].key=.str x u:=by
    rw[hkv] at rk
    generalize es[j].key=z at h4
    cases rk
    cases h4
    exact ⟨_,rfl⟩
   obtain ⟨u,hu'⟩:=hek
   rw[hu'] at this
   have e:(Value.str x u).isStr x=true:=beq_self_eq_true x
   rw[e] at this
   cases this
  |some i=>
   obtain ⟨hlt,hi,_⟩:=Array.findIdx?_eq_some_iff_getElem.mp hf
   have hgi:es[i]?=some es[i]:=Array.getElem?_eq_getElem hlt
   obtain ⟨v,hv⟩:=hpl x t hkv i hlt hi
   obtain ⟨k',v',h1,h2,h3,h4,_⟩:=at' i hlt
   rw[hv] at h1
   cases h1
   dsimp only
   rw[hgi]
   refine wpAny_bind (wpAny_dictEpoch ho hd (wpAny_bind (eqBool_key h2 hk h4 rk hu λc hc=>wpAny_bind (wpAny_dictEpoch ho hd ?_))))
   show wpAny _ _ (if (ep != ep)=true then _ else _) _ E _
   rw[if_neg (by simp),hc.mpr rfl]
   exact wpAny_bind (wpAny_rule (wpAny_pure (hsome i v hv)))
 have hcase:(∃x t,kv=.str x t)∨(∃i t,kv=.int i t)∨(∃a,kv=.ref a):=by
  have hk':=hk
  generalize hn:6=n at hk'
  cases rk with
  |str s t=>exact .inl ⟨s,t,rfl⟩
  |int i t=>exact .inr (.inl ⟨i,t,rfl⟩)
  |tup=>exact .inr (.inr ⟨_,rfl⟩)
  |lst=>exact .inr (.inr ⟨_,rfl⟩)
  |dic=>exact .inr (.inr ⟨_,rfl⟩)
  |loc=>exact .inr (.inr ⟨_,rfl⟩)
  |none=>subst hn;exact fF hk'
  |bool=>subst hn;exact fF hk'
  |bytes=>subst hn;exact fF hk'
 extract_lets pl st ht jT jR j0
 have hT:wpAny (model prog wo) A (jT false) Q E σ:=by
  obtain ⟨I,hI⟩:∃I:List Nat->Option (Option Nat)×Option Nat->Shared->Prop,∀rest b s',I rest b s'↔
    (s'=σ∧∃i hit,b=(none,hit)∧rest=(List.range' i (es.size-i)).filter (λi=>(es[i]?.map (·.hash))==some (keyH wo.params k))∧i≤es.size∧
      ((hit=none∧∀j v,j<i->kvs[j]?≠some (k,v))∨∃j v,hit=some j∧j<i∧kvs[j]?=some (k,v))):=⟨_,λU U U=>Iff.rfl⟩
  show wpAny _ _ (if (false&&_)=true then _ else _) _ _ _
  rw[if_neg (by simp)]
  refine wpAny_bind (wpAny_forIn_list _ I _ ?_ ?_ _ _
   ((hI _ _ _).2 ⟨rfl,0,none,rfl,by show placesWithHash _ _ _=_;rw[placesWithHash,List.range_eq_range',Nat.sub_zero],Nat.zero_le _,.inl ⟨rfl,λU U h=>absurd h (Nat.not_lt_zero _)⟩⟩))
  · intro x rest b s' hi'
    obtain ⟨rfl,i,hit,rfl,hr,hi,hH⟩:=(hI _ _ _).1 hi'
    obtain ⟨hix,hxn,hpx,hskip,hrest⟩:=filter_range'_cons _ _ _ _ _ hr.symm
    have hlt:x<es.size:=by omega
    have hrest':rest=(List.range' (x+1) (es.size-(x+1))).filter (λi=>(es[i]?.map (·.hash))==some (keyH wo.params k)):=by rw[hrest];congr 2;omega
    obtain ⟨k',v',h1,h2,h3,h4,_⟩:=at' x hlt
    have hHx:(hit=none∧∀j v,j<x->kvs[j]?≠some (k,v))∨∃j v,hit=some j∧j<x∧kvs[j]?=some (k,v):=by
     rcases hH with ⟨h0,hno⟩|⟨j,p,h1,hji,hj⟩
     · refine .inl ⟨h0,λj p hjx hj=>?_⟩
       rcases Nat.lt_or_ge j i with h|h
       · exact hno j p h hj
       · have:=hskip j h hjx
         rw[haskey j p hj] at this
         exact absurd this (by decide)
     · exact .inr ⟨j,p,h1,by omega,hj⟩
    have stay:¬k'=k->I rest (none,hit) s':=by
     intro hne
     refine (hI _ _ _).2 ⟨rfl,x+1,hit,rfl,hrest',hlt,?_⟩
     rcases hHx with ⟨h0,hno⟩|⟨j,p,h1,hjx,hj⟩
     · refine .inl ⟨h0,λj p hjx hj=>?_⟩
       rcases Nat.lt_or_ge j x with h|h
       · exact hno j p h hj
       · have hjx':j=x:=by omega
         subst hjx'
         rw[h1] at hj
         cases hj
         exact hne rfl
     · exact .inr ⟨j,p,h1,by omega,hj⟩
    have hgx:es[x]?=some es[x]:=Array.getElem?_eq_getElem hlt
    rw[hgx]
    dsimp only
    by_cases hh:(es[x].hash==keyH wo.params k)=true
    · rw[if_pos hh]
      refine wpAny_bind (wpAny_dictEpoch ho hd (wpAny_bind (eqBool_key h2 hk h4 rk hu λc hc=>wpAny_bind (wpAny_dictEpoch ho hd ?_))))
      show wpAny _ _ (if (ep != ep)=true then _ else _) _ E _
      rw[if_neg (by simp)]
      cases c with
      |true=>
       obtain rfl:=hc.mp rfl
       rcases hHx with ⟨rfl,_⟩|⟨j,p,_,hjx,hj⟩
       · refine wpAny_bind (wpAny_rule (wpAny_ite ?_))
         by_cases hl:st.length<2
         · rw[if_pos hl]
           exact wpAny_pure (wpAny_pure (hsome x _ h1))
         · rw[if_neg hl]
           exact wpAny_pure ((hI _ _ _).2 ⟨rfl,x+1,some x,rfl,hrest',hlt,.inr ⟨x,_,rfl,Nat.lt_succ_self x,h1⟩⟩)
       · exact absurd (nodup_idx nd hj h1) (by omega)
      |false=>exact wpAny_bind (wpAny_rule (wpAny_pure (stay λq=>by cases hc.mpr q)))
    · rw[if_neg hh]
      exact wpAny_pure (stay λhkk=>by rw[h3,hkk] at hh;simp at hh)
  · intro b s' hi'
    obtain ⟨rfl,i,hit,rfl,hr,hi,hH⟩:=(hI _ _ _).1 hi'
    rcases hH with ⟨rfl,hno⟩|⟨j,p,rfl,_,hj⟩
    · refine wpAny_pure (hnone λj p hj=>?_)
      rcases Nat.lt_or_ge j i with h|h
      · exact hno j p h hj
      · have hjl:j<es.size:=by
         rw[hsz]
         rcases Nat.lt_or_ge j kvs.length with h'|h'
         · exact h'
         · rw[List.getElem?_eq_none h'] at hj;exact nomatch hj
        have:=List.filter_eq_nil_iff.mp hr.symm j (List.mem_range'_1.mpr ⟨h,by omega⟩)
        exact this (haskey j p hj)
    · exact wpAny_pure (hsome j p hj)
 have hR:wpAny (model prog wo) A (jR ()) Q E σ:=by
  show wpAny _ _ (if (st==[kv])=true then _ else _) _ _ _
  by_cases hone:(st==[kv])=true
  · rw[if_pos hone];exact wpAny_bind (wpAny_pure hT)
  · rw[if_neg hone];exact wpAny_bind (tableMayTell_key hk rk stored hT)
 have h0:wpAny (model prog wo) A (j0 ()) Q E σ:=by
  show wpAny _ _ (if (kv::st).all carriedByValue=true then _ else _) _ _ _
  by_cases hall:(kv::st).all carriedByValue=true
  · rw[if_pos hall];exact plainW
  · rw[if_neg hall]
    clear hall hT j0 plainW
    clear_value jR
    rcases hcase with ⟨x,t,rfl⟩|⟨x,t,rfl⟩|⟨x,rfl⟩
    · exact hR
    · exact hR
    · show wpAny _ _ (if _ then _ else _) _ _ _
      rw[if_neg (hany ⟨_,rfl⟩)];exact hR
 clear hT hR plainW
 clear_value j0
 rcases hcase with ⟨x,t,rfl⟩|⟨x,t,rfl⟩|⟨x,rfl⟩
 · show wpAny _ _ (if _ then _ else _) _ _ _
   by_cases hs:(es.all λe=>isExactStrKey e.key)=true
   · rw[if_pos hs];exact road1 _ _ rfl
   · rw[if_neg hs];exact h0
 · exact h0
 · exact h0
end
noncomputable abbrev dObj (es:Array DictEntry) (n:Nat):Obj:={cls:=.type "dict",data:=.dict es n}
open Classical in
def getK (k:CD):List (CD×CD)->Option CD
 |[]=>none
 |(a,b)::l=>if a=k then some b else getK k l
open Classical in
def putK (k v:CD):List (CD×CD)->List (CD×CD)
 |[]=>[(k,v)]
 |(a,b)::l=>if a=k then (a,v)::l else (a,b)::putK k v l
section
variable {k v a b:CD} {l:List (CD×CD)}
theorem getK_hit:getK k ((k,b)::l)=some b:=if_pos rfl
theorem getK_miss (h:a≠k):getK k ((a,b)::l)=getK k l:=if_neg h
theorem putK_hit:putK k v ((k,b)::l)=(k,v)::l:=if_pos rfl
theorem putK_miss (h:a≠k):putK k v ((a,b)::l)=(a,b)::putK k v l:=if_neg h
theorem getK_cs {P:Prop} {u:CD×CD} (h:u.1=k->P) (g:u.1≠k->P):P:=by
 by_cases q:u.1=k
 · exact h q
 · exact g q
theorem getK_none (h:∀(j:Nat) (v:CD),l[j]?≠some (k,v)):getK k l=none:=by
 induction l with
 |nil=>rfl
 |cons x l ih=>exact (getK_miss λe=>h 0 x.2 (by rw[← e];rfl)).trans (ih λj v=>h (j+1) v)
theorem getK_some {j:Nat} (n:(l.map (·.1)).Nodup) (h:l[j]?=some (k,v)):getK k l=some v:=by
 induction l generalizing j with
 |nil=>exact nS h
 |cons x l ih=>cases j with
  |zero=>cases h;exact getK_hit
  |succ j=>
   rw[List.map_cons,List.nodup_cons] at n
   exact (getK_miss λe=>n.1 (by rw[e];exact List.mem_map.mpr ⟨(k,v),List.mem_of_getElem? h,rfl⟩)).trans (ih n.2 h)
theorem getK_not_mem (h:getK k l=none):k∉l.map (·.1):=by
 induction l with
 |nil=>exact λh=>nM h
 |cons x l ih=>
  refine getK_cs (u:=x) (k:=k) (λe=>?_) λe=>?_
  · subst e
    exact nS (h.symm.trans getK_hit)
  · exact λm=>(List.mem_cons.mp m).elim (λq=>e q.symm) (ih ((getK_miss e).symm.trans h))
theorem putK_new (h:getK k l=none):putK k v l=l++[(k,v)]:=by
 induction l with
 |nil=>rfl
 |cons x l ih=>
  refine getK_cs (u:=x) (k:=k) (λe=>?_) λe=>?_
  · subst e
    exact nS (h.symm.trans getK_hit)
  · exact (putK_miss e).trans (congrArg _ (ih ((getK_miss e).symm.trans h)))
theorem putK_keys {u:CD} (h:getK k l=some u):(putK k v l).map (·.1)=l.map (·.1):=by
 induction l with
 |nil=>exact nS h
 |cons x l ih=>
  refine getK_cs (u:=x) (k:=k) (λe=>?_) λe=>?_
  · subst e
    have e:=congrArg (List.map (·.1)) (putK_hit (k:=x.1) (b:=x.2) (v:=v) (l:=l))
    exact e
  · exact (congrArg _ (putK_miss e)).trans (congrArg (x.1::·) (ih ((getK_miss e).symm.trans h)))
theorem putK_length (l:List (CD×CD)):(putK k v l).length≤l.length+1:=by
 cases h:getK k l with
 |none=>rw[putK_new h,List.length_append];exact Nat.le_refl _
 |some u=>
  have:=congrArg List.length (putK_keys (v:=v) h)
  rw[List.length_map,List.length_map] at this
  rw[this]
  exact Nat.le_succ _
end
theorem putK_nodup {k v:CD} {l:List (CD×CD)} (n:(l.map (·.1)).Nodup):((putK k v l).map (·.1)).Nodup:=by
 cases h:getK k l with
 |none=>
  rw[putK_new h,List.map_append,List.nodup_append]
  refine ⟨n,by simp,λx hx y hy e=>?_⟩
  simp only[List.map_cons,List.map_nil,List.mem_singleton] at hy
  exact getK_not_mem h (hy▸e▸hx)
 |some u=>rw[putK_keys h];exact n
section
variable {Pm:Params} {w:Wd} {h:Heap}
theorem RdE.append {kvs:List (CD×CD)} {es:List DictEntry} {k v:CD} {kv vv:Value} (r:RdE Pm w h kvs es) (a:k.key 6=true) (b:Rd Pm w h k kv) (c:Rd Pm w h v vv):RdE Pm w h (kvs++[(k,v)]) (es++[⟨keyH Pm k,kv,vv⟩]):=RdE.ind (.cons a b c .nil) (λx y z U r=>.cons x y z r) r
theorem RdE.modify {kvs:List (CD×CD)} {es:List DictEntry} {k v u:CD} {vv:Value} {j:Nat} (r:RdE Pm w h kvs es) (n:(kvs.map (·.1)).Nodup) (q:kvs[j]?=some (k,u)) (c:Rd Pm w h v vv):
  RdE Pm w h (putK k v kvs) (es.modify j λe=>{e with val:=vv}):=by
 induction r using RdE.ind generalizing j with
 |nil=>exact nS q
 |@cons a b l kv b' es x y z r ih=>cases j with
  |zero=>
   cases q
   rw[putK_hit]
   exact .cons x y c r
  |succ j=>
   rw[List.map_cons,List.nodup_cons] at n
   have:a≠k:=λe=>n.1 (by rw[e];exact List.mem_map.mpr ⟨(k,u),List.mem_of_getElem? q,rfl⟩)
   rw[putK_miss this]
   exact .cons x y z (ih n.2 q)
end
section
variable {prog:Program} {wo:World} {w:Wd} {A:Around} {E:Value->Shared->Prop} {σ:Shared} {d:Addr} {o:Obj} {es:Array DictEntry} {ep:Nat} {kvs:List (CD×CD)} {k v:CD} {kv vv:Value}
theorem dictGet_key {Q:Option Value->Shared->Prop} (hu:A.units+6<cLine) (hk:k.key 6=true) (rk:Rd wo.params w σ.heap k kv) (ho:σ.heap.get? d=some o) (hd:o.data=.dict es ep)
  (re:RdE wo.params w σ.heap kvs es.toList) (nd:(kvs.map (·.1)).Nodup) (hnone:getK k kvs=none->∀tk,Q none {σ with toks:=tk})
  (hsome:∀u rv,getK k kvs=some u->Rd wo.params w σ.heap u rv->∀tk,Q (some rv) {σ with toks:=tk}):
  wpAny (model prog wo) A (dictGet d kv) Q E σ:=by
 unfold dictGet
 try with_reducible refine wpAny_holding ?_
 refine wpAny_bind (pyHash_key 6 k kv A σ _ hk rk hu λtk=>wpAny_bind (dictFind_key (σ:={σ with toks:=tk}) hu hk rk ho hd re nd ?_ ?_))
 · intro hno
   exact wpAny_pure (hnone (getK_none hno) tk)
 · intro j u hj
   refine wpAny_bind (wpAny_dictEntries (s:={σ with toks:=tk}) ho hd ?_)
   have hl:j<es.size:=by
    have:=re.length
    rcases Nat.lt_or_ge j kvs.length with q|q
    · simp at this;omega
    · rw[List.getElem?_eq_none q] at hj;cases hj
   have e:es[j]?=some es[j]:=Array.getElem?_eq_getElem hl
   obtain ⟨k',v',h1,_,_,_,h5⟩:=RdE.get j es[j] re (by simp[hl])
   rw[hj] at h1
   cases h1
   rw[e]
   exact wpAny_pure (hsome u _ (getK_some nd hj) h5 tk)
theorem dictSetHashed_key {Q:Unit->Shared->Prop} (hu:A.units+6<cLine) (hk:k.key 6=true) (rk:Rd wo.params w σ.heap k kv) (rv:Rd wo.params w σ.heap v vv) (ho:σ.heap.get? d=some (dObj es ep))
  (re:RdE wo.params w σ.heap kvs es.toList) (nd:(kvs.map (·.1)).Nodup) (hX:w.X d) (hsz:es.size≤sizeLine)
  (h:∀h' es' ep' tk,h'.get? d=some (dObj es' ep')->Heap.SameBut d σ.heap h'->RdE wo.params w h' (putK k v kvs) es'.toList->ep'=(match getK k kvs with|some _=>ep|none=>ep+1)->Q () {σ with heap:=h',toks:=tk}):
  wpAny (model prog wo) A (dictSetHashed d kv (keyH wo.params k) vv) Q E σ:=by
 have up:∀{h':Heap},Heap.SameBut d σ.heap h'->(∃o,h'.get? d=some o)->ExtR w σ.heap w h':=λs o=>⟨λU U e=>e,λa o e n=>(s.2 a λq=>n (q▸hX)).trans e,λU U U q=>q⟩
 unfold dictSetHashed
 try with_reducible refine wpAny_holding ?_
 refine wpAny_bind (dictFind_key (σ:=σ) hu hk rk ho rfl re nd ?_ ?_)
 · intro hno
   have hn:=getK_none hno
   refine wpAny_bind (wpAny_rule (wpAny_updateDictKeys (hz:=hsz) (s:=σ) ho rfl ?_))
   have g:=Heap.get?_update_self (h:=σ.heap) (a:=d) (Obj.mapDictKeys λes=>es.push ⟨keyH wo.params k,kv,vv⟩) ho rfl
   refine h _ (es.push ⟨keyH wo.params k,kv,vv⟩) (ep+1) σ.toks g (Heap.SameBut.update ..) ?_ (by rw[hn])
   have X:=up (Heap.SameBut.update σ.heap d (Obj.mapDictKeys λes=>es.push ⟨keyH wo.params k,kv,vv⟩)) ⟨_,g⟩
   rw[putK_new hn,Array.toList_push]
   exact (re.extR X).append hk (rk.extR X) (rv.extR X)
 · intro j u hj
   have hs:=getK_some nd hj
   refine wpAny_bind (wpAny_rule (wpAny_bind (wpAny_updateDict (s:=σ) ho rfl (wpAny_point ?_))))
   have g:=Heap.get?_update_self (h:=σ.heap) (a:=d) (Obj.mapDict λes=>es.modify j λe=>{e with val:=vv}) ho rfl
   refine h _ (es.modify j λe=>{e with val:=vv}) ep σ.toks g (Heap.SameBut.update ..) ?_ (by rw[hs])
   have X:=up (Heap.SameBut.update σ.heap d (Obj.mapDict λes=>es.modify j λe=>{e with val:=vv})) ⟨_,g⟩
   rw[Array.toList_modify]
   exact (re.extR X).modify nd hj (rv.extR X)
theorem dictSet_key {Q:Unit->Shared->Prop} (hu:A.units+6<cLine) (hk:k.key 6=true) (rk:Rd wo.params w σ.heap k kv) (rv:Rd wo.params w σ.heap v vv) (ho:σ.heap.get? d=some (dObj es ep))
  (re:RdE wo.params w σ.heap kvs es.toList) (nd:(kvs.map (·.1)).Nodup) (hX:w.X d) (hsz:es.size≤sizeLine)
  (h:∀h' es' ep' tk,h'.get? d=some (dObj es' ep')->Heap.SameBut d σ.heap h'->RdE wo.params w h' (putK k v kvs) es'.toList->ep'=(match getK k kvs with|some _=>ep|none=>ep+1)->Q () {σ with heap:=h',toks:=tk}):
  wpAny (model prog wo) A (dictSet d kv vv) Q E σ:=by
 unfold dictSet
 try with_reducible refine wpAny_holding ?_
 refine wpAny_bind (pyHash_key 6 k kv A σ _ hk rk hu λtk=>?_)
 exact dictSetHashed_key (σ:={σ with toks:=tk}) hu hk rk rv ho re nd hX hsz h
end
def DictAt (Pm:Params) (w:Wd) (h:Heap) (d:Addr) (kvs:List (CD×CD)):Prop:=
 ∃o es ep,h.get? d=some o∧o.ExactDict∧o.data=.dict es ep∧RdE Pm w h kvs es.toList∧(kvs.map (·.1)).Nodup∧(d==sysModules)=false∧es.size≤10000
section
variable {prog:Program} {wo:World} {w:Wd} {A:Around} {E:Value->Shared->Prop} {σ:Shared} {d:Addr} {kvs:List (CD×CD)} {k v:CD} {kv vv:Value}
theorem DictAt.typeIs (D:DictAt wo.params w σ.heap d kvs):σ.TypeIs (.ref d) "dict":=D.imp λo h=>by obtain ⟨_,_,ho,hc,_⟩:=h;exact ⟨ho,hc.1⟩
theorem DictAt.find {Q:Option Value->Shared->Prop} (D:DictAt wo.params w σ.heap d kvs) (hu:A.units+6<cLine) (hk:k.key 6=true) (rk:Rd wo.params w σ.heap k kv)
  (hnone:getK k kvs=none->∀tk,Q none {σ with toks:=tk}) (hsome:∀u rv,getK k kvs=some u->Rd wo.params w σ.heap u rv->∀tk,Q (some rv) {σ with toks:=tk}):
  wpAny (model prog wo) A (dictGet d kv) Q E σ:=by
 obtain ⟨o,es,ep,ho,_,hd,re,nd,_,_⟩:=D
 exact dictGet_key hu hk rk ho hd re nd hnone hsome
theorem contains_key {Q:Bool->Shared->Prop} (D:DictAt wo.params w σ.heap d kvs) (hu:A.units+7<cLine) (hk:k.key 6=true) (rk:Rd wo.params w σ.heap k kv)
  (h:∀tk,Q (getK k kvs).isSome {σ with toks:=tk}):wpAny (model prog wo) A (contains (.ref d) kv) Q E σ:=by
 have hs:(d==sysModules)=false:=by obtain ⟨_,_,_,_,_,_,_,_,hs,_⟩:=D;exact hs
 unfold contains
 try with_reducible refine wpAny_holding ?_
 refine wpAny_bind (wpAny_specialOf D.typeIs slot_dict_contains.lookup ?_)
 show wpAny _ _ (if (some (Value.builtin "dict.__contains__")==some Value.none)=true then _ else _) _ E σ
 rw[if_neg (by rw[beq_builtin_none];exact Bool.false_ne_true)]
 refine wpAny_bind (wpAny_callSpecialUnlessNone?_slot (name:=Str.ofString "__contains__") D.typeIs slot_dict_contains
  (wpAny_call_entry slot_dict_contains D.typeIs entry_dict_contains ?_ (args_dict_contains _ _)))
 show wpAny _ _ (dictGet d kv>>= _) _ _ σ
 refine wpAny_bind (D.find (A:=A.in1) (by show A.units+1+6<cLine;omega) hk rk (λe tk=>?_) λu rv e r tk=>?_)
 · show wpAny _ _ (Builtin.Dict.pendingKey? d kv>>= _) _ _ _
   exact wpAny_bind (wpAny_pendingKey_other hs (wpAny_pure ⟨_,rfl,wpAny_truthy_bool (by have:=h tk;rw[e] at this;exact this)⟩))
 · exact wpAny_pure ⟨_,rfl,wpAny_truthy_bool (by have:=h tk;rw[e] at this;exact this)⟩
theorem getItem_key {u:CD} {Q:Value->Shared->Prop} (D:DictAt wo.params w σ.heap d kvs) (hu:A.units+7<cLine) (hk:k.key 6=true) (rk:Rd wo.params w σ.heap k kv) (hg:getK k kvs=some u)
  (h:∀rv tk,Rd wo.params w σ.heap u rv->Q rv {σ with toks:=tk}):wpAny (model prog wo) A (getItem (.ref d) kv) Q E σ:=by
 unfold getItem
 try with_reducible refine wpAny_holding ?_
 refine wpAny_bind (wpAny_sequenceKey D.typeIs (by decide) ?_)
 refine wpAny_bind (wpAny_callSpecial?_slot (name:=Str.ofString "__getitem__") D.typeIs slot_dict_getitem
  (wpAny_call_entry slot_dict_getitem D.typeIs entry_dict_getitem ?_ (args_dict_getitem _ _)))
 show wpAny _ _ (dictGet d kv>>= _) _ _ σ
 refine wpAny_bind (D.find (A:=A.in1) (by show A.units+1+6<cLine;omega) hk rk (λe U=>by rw[hg] at e;cases e) λu' rv e r tk=>?_)
 rw[hg] at e
 cases e
 exact wpAny_pure ⟨rv,rfl,wpAny_pure (h rv tk r)⟩
structure DictW (Pm:Params) (w:Wd) (h:Heap) (d:Addr) (es:Array DictEntry) (ep:Nat) (kvs:List (CD×CD)):Prop where
 at_:h.get? d=some (dObj es ep)
 rd:RdE Pm w h kvs es.toList
 nd:(kvs.map (·.1)).Nodup
 sys:(d==sysModules)=false
 size:es.size≤10000
 W:w.W d
theorem DictW.get {es:Array DictEntry} {ep:Nat} (D:DictW wo.params w σ.heap d es ep kvs):DictAt wo.params w σ.heap d kvs:=⟨_,es,ep,D.at_,⟨rfl,rfl,rfl⟩,rfl,D.rd,D.nd,D.sys,D.size⟩
def Stored (Pm:Params) (w:Wd) (σ:Shared) (d:Addr) (ep:Nat) (kvs:List (CD×CD)) (k v:CD) (Q:Shared->Prop):Prop:=
 ∀h' es' ep' tk,h'.get? d=some (dObj es' ep')->Heap.SameBut d σ.heap h'->RdE Pm w h' (putK k v kvs) es'.toList->ep'=(match getK k kvs with|some _=>ep|none=>ep+1)->Q {σ with heap:=h',toks:=tk}
theorem setItem_key {es:Array DictEntry} {ep:Nat} {Q:Unit->Shared->Prop} (D:DictW wo.params w σ.heap d es ep kvs) (hu:A.units+7<cLine) (hk:k.key 6=true) (rk:Rd wo.params w σ.heap k kv) (rv:Rd wo.params w σ.heap v vv)
  (h:Stored wo.params w σ d ep kvs k v (Q ())):wpAny (model prog wo) A (setItem (.ref d) kv vv) Q E σ:=by
 have hT:σ.TypeIs (.ref d) "dict":=D.get.typeIs
 unfold setItem
 try with_reducible refine wpAny_holding ?_
 refine wpAny_bind (wpAny_sequenceKey hT (by decide) ?_)
 refine wpAny_bind (wpAny_callSpecial?_slot (name:=Str.ofString "__setitem__") hT slot_dict_setitem
  (wpAny_call_entry slot_dict_setitem hT entry_dict_setitem ?_ (args_dict_setitem _ _ _)))
 show wpAny _ _ (Builtin.Dict.notOrdered "__setitem__" ⟨[.ref d,kv,vv],[]⟩>>= _) _ _ σ
 refine wpAny_bind (wpAny_notOrdered_dict hT ?_)
 show wpAny _ _ (dictSet d kv vv>>= _) _ _ σ
 exact wpAny_bind (dictSet_key (by show A.units+1+6<cLine;omega) hk rk rv D.at_ D.rd D.nd (w.sub _ D.W) (Nat.le_trans D.size (by decide)) λh' es' ep' tk a b c e=>wpAny_pure ⟨.none,rfl,wpAny_pure (h h' es' ep' tk a b c e)⟩)
end
noncomputable def P.toNat:P->Nat
 | .h=>0
 | .o p=>2*p.toNat+1
 | .i p=>2*p.toNat+2
theorem P.succ_toNat (p:P):p.succ.toNat=p.toNat+1:=by
 induction p with
 |h=>rfl
 |o p=>rfl
 |i p ih=>show 2*p.succ.toNat+1=_;rw[ih];rfl
noncomputable def HT.find:P->HT->Option AObj
 | .h,.ob v _ _=>some v
 | .h,.nd _ _=>none
 | .h,.lf=>none
 | .o p,.ob _ l _=>HT.find p l
 | .o p,.nd l _=>HT.find p l
 | .o _,.lf=>none
 | .i p,.ob _ _ r=>HT.find p r
 | .i p,.nd _ r=>HT.find p r
 | .i _,.lf=>none
theorem HT.get_true:∀{i:P} {t:HT} {k:AObj->Bool},HT.get i t k=true->∃o,HT.find i t=some o∧k o=true
 | .h,.ob v l r,k,h=>⟨v,rfl,h⟩
 | .h,.nd _ _,k,h=>fF h
 | .h,.lf,k,h=>fF h
 | .o p,.ob v l r,k,h=>HT.get_true (i:=p) (t:=l) h
 | .o p,.nd l r,k,h=>HT.get_true (i:=p) (t:=l) h
 | .o p,.lf,k,h=>fF h
 | .i p,.ob v l r,k,h=>HT.get_true (i:=p) (t:=r) h
 | .i p,.nd l r,k,h=>HT.get_true (i:=p) (t:=r) h
 | .i p,.lf,k,h=>fF h
theorem HT.find_lf:∀i:P,HT.find i .lf=none
 | .h=>rfl
 | .o _=>rfl
 | .i _=>rfl
theorem HT.find_put (v:AObj):∀(i:P) (t:HT),HT.find i (HT.put i v t)=some v
 | .h,.ob _ _ _=>rfl
 | .h,.nd _ _=>rfl
 | .h,.lf=>rfl
 | .o p,.ob _ l _=>HT.find_put v p l
 | .o p,.nd l _=>HT.find_put v p l
 | .o p,.lf=>HT.find_put v p .lf
 | .i p,.ob _ _ r=>HT.find_put v p r
 | .i p,.nd _ r=>HT.find_put v p r
 | .i p,.lf=>HT.find_put v p .lf
theorem HT.find_put_ne (v:AObj) (i j:P) (t:HT) (h:j≠i):HT.find j (HT.put i v t)=HT.find j t:=by
 induction i generalizing j t with
 |h=>cases j with
  |h=>exact absurd rfl h
  |_=>cases t<;>first|rfl|exact HT.find_lf _
 |o p ih=>cases j with
  |o j=>cases t with
   |lf=>exact (ih j .lf λe=>h (by rw[e])).trans (HT.find_lf j)
   |_=>exact ih j _ λe=>h (by rw[e])
  |_=>cases t<;>first|rfl|exact HT.find_lf _
 |i p ih=>cases j with
  |i j=>cases t with
   |lf=>exact (ih j .lf λe=>h (by rw[e])).trans (HT.find_lf j)
   |_=>exact ih j _ λe=>h (by rw[e])
  |_=>cases t<;>first|rfl|exact HT.find_lf _
noncomputable def VL.find (x:Nat):VL->Option AV
 | .nil=>none
 | .cons y v l=>bif Nat.beq y x then some v else VL.find x l
theorem VL.find_c {x y:Nat} {v:AV} {l:VL}:VL.find x (.cons y v l)=bif Nat.beq y x then some v else VL.find x l:=rfl
theorem VL.get_true {x:Nat} {k:AV->Bool} {l:VL} (h:VL.get x l k=true):∃v,VL.find x l=some v∧k v=true:=by
 induction l with
 |nil=>exact fF h
 |cons y v l ih=>
  change (Bool.rec (VL.get x l k) (k v) (Nat.beq y x):Bool)=true at h
  rw[VL.find_c]
  cases q:Nat.beq y x with
  |true=>rw[q] at h;exact ⟨v,rfl,h⟩
  |false=>rw[q] at h;exact ih h
theorem VL.find_set (x:Nat) (w:AV) (l:VL):VL.find x (VL.set x w l)=some w:=by
 induction l with
 |nil=>show VL.find x (.cons x w .nil)=_;rw[VL.find_c,Nat.beq_refl];rfl
 |cons y v l ih=>
  show VL.find x (Bool.rec (.cons y v (VL.set x w l)) (.cons y w l) (Nat.beq y x))=_
  cases q:Nat.beq y x with
  |true=>rw[VL.find_c,q];rfl
  |false=>rw[VL.find_c,q];exact ih
theorem VL.find_set_ne (x z:Nat) (w:AV) (hz:z≠x) (l:VL):VL.find z (VL.set x w l)=VL.find z l:=by
 have key:Nat.beq x z=false:=by
  cases q:Nat.beq x z with
  |true=>exact absurd (Nat.eq_of_beq_eq_true q).symm hz
  |false=>rfl
 induction l with
 |nil=>show VL.find z (.cons x w .nil)=_;rw[VL.find_c,key];rfl
 |cons y v l ih=>
  show VL.find z (Bool.rec (.cons y v (VL.set x w l)) (.cons y w l) (Nat.beq y x))=_
  cases q:Nat.beq y x with
  |true=>rw[VL.find_c,VL.find_c,Nat.eq_of_beq_eq_true q,key];rfl
  |false=>rw[VL.find_c,VL.find_c,ih]
structure Cf where
 prog:Program
 wo:World
 base:Heap
 σ₀:Shared
 ρ:Rho
 cls:Nat->Addr
 K:Frag
 att:List Str
 pin:P->Option Addr
structure Fm where
 env:Env
 comp:Option (Scope×List (Str×Addr)×Addr)
def Fm.Own (f:Fm) (a:Addr):Prop:=a=f.env.locals∨(∃x∈f.env.cells,x.2=a)∨(∃s c,f.comp=some (s,c,a))
noncomputable def Fm.cur (f:Fm):Env:=match f.comp with
 |none=>f.env
 |some (s,c,a)=>compEnvC s c a f.env
def Holds (env:Env) (h:Heap) (n:Str) (v:Value):Prop:=
 (env.kindOf n=some .local∧∃m,h.Ns env.locals m∧m n=some v)∨(env.kindOf n=some .cell∧∃a,env.cells.lookup n=some a∧h.IsCell a (some v))
def HoldsC (f:Fm) (h:Heap) (n:Str) (v:Value):Prop:=∃s c a,f.comp=some (s,c,a)∧(Env.kindOf (compEnvC s c a f.env) n=some .local∧∃m,h.Ns a m∧m n=some v)
noncomputable abbrev lObj (vs:Array Value) (n:Nat):Obj:={cls:=.type "list",data:=.seq vs n}
noncomputable abbrev iObj (C d:Addr):Obj:={cls:=.ref C,dict:=some d,data:=.plain}
def ObjAt (c:Cf) (w:Wd):AObj->Addr->Addr->Heap->Prop
 | .list xs,a,b,h=>∃ds vs n,a=b∧h.get? b=some (lObj vs n)∧ConcL c.ρ xs ds∧RdL c.wo.params w h ds vs.toList∧vs.size≤10000
 | .dict ep kvs,a,b,h=>∃ds es,a=b∧ConcD c.ρ kvs ds∧DictW c.wo.params w h b es ep ds
 | .inst k kvs,a,b,h=>∃ds es n,h.get? a=some (iObj (c.cls k) b)∧¬w.X a∧ConcD c.ρ kvs ds∧(∀x∈ds,∃s,x.1=.str s)∧DictW c.wo.params w h b es n ds
def VarAt (c:Cf) (w:Wd) (h:Heap) (H:Str->Value->Prop) (x:Nat) (v:AV):Prop:=∃n d rv,sc n=x∧okS n=true∧Conc c.ρ v d∧Rd c.wo.params w h d rv∧H n rv
structure Rel (c:Cf) (f:Fm) (w:Wd) (s:St) (σ:Shared):Prop where
 bd:BOk c.ρ s.bd
 vars:∀x v,VL.find x s.vars=some v->VarAt c w σ.heap (Holds f.env σ.heap) x v
 cvars:∀x v,VL.find x s.cvars=some v->VarAt c w σ.heap (HoldsC f σ.heap) x v
 ns:∃m,σ.heap.Ns f.env.locals m
 cells:∀x∈f.env.cells,∃v,σ.heap.IsCell x.2 v
 cellNe:∀x∈f.env.cells,x.2≠f.env.locals
 cellInj:∀x∈f.env.cells,∀y∈f.env.cells,x.2=y.2->x.1=y.1
 comp:∀s c a,f.comp=some (s,c,a)->(∃m,σ.heap.Ns a m)∧a≠f.env.locals∧∀x∈f.env.cells,x.2≠a
 own:∀a,f.Own a->w.W a
 obj:∀p o,HT.find p s.hp=some o->∃a b,w.eta p=some (a,b)∧w.W b∧¬f.Own b∧ObjAt c w o a b σ.heap
 inj:∀p q o o' a a' b,HT.find p s.hp=some o->HT.find q s.hp=some o'->w.eta p=some (a,b)->w.eta q=some (a',b)->p=q
 nx:∀p x,w.eta p=some x->p.toNat<s.nx.toNat
 base:∀a o,c.base.get? a=some o->σ.heap.get? a=some o∧¬w.X a
 dom:∀a,w.X a->∃o,σ.heap.get? a=some o
 rest:∃h tk,σ={c.σ₀ with heap:=h,toks:=tk}
 pin:∀p a,c.pin p=some a->w.eta p=some (a,a)
theorem mem_of_lookup:∀{l:List (Str×Addr)} {n:Str} {a:Addr},l.lookup n=some a->(n,a)∈l
 |[],_,_,h=>by simp at h
 |(m,b)::l,n,a,h=>by
  rw[List.lookup_cons] at h
  cases q:n==m with
  |true=>
   rw[q] at h
   cases h
   rw[eq_of_beq q]
   exact List.mem_cons_self
  |false=>
   rw[q] at h
   exact List.mem_cons_of_mem _ (mem_of_lookup h)
theorem Holds.keep {env:Env} {h h':Heap} {n:Str} {v:Value} (H:Holds env h n v) (kl:∀o,h.get? env.locals=some o->h'.get? env.locals=some o)
  (kc:∀x∈env.cells,∀o,h.get? x.2=some o->h'.get? x.2=some o):Holds env h' n v:=by
 rcases H with ⟨k,m,hn,e⟩|⟨k,a,hl,o,ho,hd⟩
 · exact .inl ⟨k,m,hn.at' kl,e⟩
 · exact .inr ⟨k,a,hl,o,kc (n,a) (mem_of_lookup hl) o ho,hd⟩
theorem HoldsC.keep {f:Fm} {h h':Heap} {n:Str} {v:Value} (H:HoldsC f h n v) (k:∀s c a,f.comp=some (s,c,a)->∀o,h.get? a=some o->h'.get? a=some o):HoldsC f h' n v:=by
 obtain ⟨s,c,a,e,kk,m,hn,q⟩:=H
 exact ⟨s,c,a,e,kk,m,hn.at' (k s c a e),q⟩
section
variable {c:Cf} {f:Fm} {w:Wd} {s:St} {σ:Shared}
theorem VarAt.extR {w':Wd} {h h':Heap} {H H':Str->Value->Prop} {x:Nat} {v:AV} (V:VarAt c w h H x v) (E:ExtR w h w' h') (k:∀n u,H n u->H' n u):VarAt c w' h' H' x v:=by
 obtain ⟨n,d,rv,a,b,e,r,y⟩:=V
 exact ⟨n,d,rv,a,b,e,r.extR E,k _ _ y⟩
theorem VarAt.ext {w':Wd} {h h':Heap} {H H':Str->Value->Prop} {x:Nat} {v:AV} (V:VarAt c w h H x v) (E:Ext w h w' h') (k:∀n u,H n u->H' n u):VarAt c w' h' H' x v:=by
 obtain ⟨n,d,rv,a,b,e,r,y⟩:=V
 exact ⟨n,d,rv,a,b,e,r.ext E,k _ _ y⟩
theorem DictW.keep {Pm:Params} {w w':Wd} {h h':Heap} {b:Addr} {es:Array DictEntry} {ep:Nat} {ds:List (CD×CD)} (D:DictW Pm w h b es ep ds) (E:ExtR w h w' h') (e:h'.get? b=h.get? b) (W:w'.W b):DictW Pm w' h' b es ep ds:=
 ⟨e.trans D.at_,D.rd.extR E,D.nd,D.sys,D.size,W⟩
theorem ObjAt.keepR {w':Wd} {h h':Heap} {o:AObj} {a b:Addr} (O:ObjAt c w o a b h) (E:ExtR w h w' h') (e:h'.get? b=h.get? b) (W:w'.W b):ObjAt c w' o a b h':=by
 cases o with
 |list xs=>
  obtain ⟨ds,vs,n,q,g,C,r,z⟩:=O
  exact ⟨ds,vs,n,q,e.trans g,C,r.extR E,z⟩
 |dict ep kvs=>
  obtain ⟨ds,es,q,C,D⟩:=O
  exact ⟨ds,es,q,C,D.keep E e W⟩
 |inst k kvs=>
  obtain ⟨ds,es,n,g,nx,C,st,D⟩:=O
  exact ⟨ds,es,n,E.keep _ _ g nx,λq=>nx (E.freshX _ _ g q),C,st,D.keep E e W⟩
theorem ObjAt.keep {w':Wd} {h h':Heap} {o:AObj} {a b:Addr} (O:ObjAt c w o a b h) (E:Ext w h w' h') (e:h'.get? b=h.get? b) (W:w'.W b):ObjAt c w' o a b h':=O.keepR E.r e W
theorem ObjAt.here {o:AObj} {a b:Addr} {h:Heap} (O:ObjAt c w o a b h):∃x,h.get? b=some x:=by
 cases o with
 |list xs=>obtain ⟨_,_,_,_,g,_⟩:=O;exact ⟨_,g⟩
 |dict ep kvs=>obtain ⟨_,_,_,_,D⟩:=O;exact ⟨_,D.at_⟩
 |inst k kvs=>obtain ⟨_,_,_,_,_,_,_,D⟩:=O;exact ⟨_,D.at_⟩
theorem Rel.grow (R:Rel c f w s σ) {h':Heap} {tk:Nat} (k:∀a o,σ.heap.get? a=some o->h'.get? a=some o):Rel c f w s {σ with heap:=h',toks:=tk} where
 bd:=R.bd
 vars x v e:=(R.vars x v e).ext (.grow k) λn u H=>H.keep (k _) λx U=>k _
 cvars x v e:=(R.cvars x v e).ext (.grow k) λn u H=>H.keep λU U U U=>k _
 ns:=by obtain ⟨m,hn⟩:=R.ns;exact ⟨m,hn.at' (k _)⟩
 cells x hx:=by obtain ⟨v,hv⟩:=R.cells x hx;exact ⟨v,hv.keeps k⟩
 cellNe:=R.cellNe
 cellInj:=R.cellInj
 comp s c a e:=by obtain ⟨⟨m,hm⟩,r⟩:=R.comp s c a e;exact ⟨⟨m,hm.at' (k _)⟩,r⟩
 own:=R.own
 obj p o e:=by
  obtain ⟨a,b,h1,h2,h3,O⟩:=R.obj p o e
  obtain ⟨x,hx⟩:=O.here
  exact ⟨a,b,h1,h2,h3,O.keep (.grow k) ((k _ _ hx).trans hx.symm) h2⟩
 inj:=R.inj
 nx:=R.nx
 base a o e:=⟨k _ _ (R.base a o e).1,(R.base a o e).2⟩
 dom a h:=by obtain ⟨o,e⟩:=R.dom a h;exact ⟨o,k _ _ e⟩
 rest:=by obtain ⟨h,tk',e⟩:=R.rest;exact ⟨h',tk,by rw[e]⟩
 pin:=R.pin
theorem Rel.toks (R:Rel c f w s σ) {tk:Nat}:Rel c f w s {σ with toks:=tk}:=R.grow (h':=σ.heap) λU U e=>e
theorem Rel.write (R:Rel c f w s σ) {p:P} {o o':AObj} {a b:Addr} {h':Heap} {tk:Nat} (hp:HT.find p s.hp=some o) (he:w.eta p=some (a,b)) (sb:Heap.SameBut b σ.heap h') (O':ObjAt c w o' a b h'):
  Rel c f w (setO p o' s) {σ with heap:=h',toks:=tk}:=by
 have hb:w.W b∧¬f.Own b:=by
  obtain ⟨a',b',e,h1,h2,_⟩:=R.obj p o hp
  rw[he] at e
  cases e
  exact ⟨h1,h2⟩
 have E:Ext w σ.heap w h':=.write hb.1 sb O'.here
 have ko:∀x,f.Own x->h'.get? x=σ.heap.get? x:=λx hx=>sb.2 x λq=>hb.2 (q▸hx)
 have kl:∀o,σ.heap.get? f.env.locals=some o->h'.get? f.env.locals=some o:=λo e=>(ko _ (.inl rfl)).trans e
 have kc:∀x∈f.env.cells,∀o,σ.heap.get? x.2=some o->h'.get? x.2=some o:=λx hx o e=>(ko _ (.inr (.inl ⟨x,hx,rfl⟩))).trans e
 have kk:∀s c a,f.comp=some (s,c,a)->∀o,σ.heap.get? a=some o->h'.get? a=some o:=λs c a q o e=>(ko _ (.inr (.inr ⟨s,c,q⟩))).trans e
 exact {
  bd:=R.bd
  vars:=λx v e=>(R.vars x v e).ext E λn u H=>H.keep kl kc
  cvars:=λx v e=>(R.cvars x v e).ext E λn u H=>H.keep kk
  ns:=by obtain ⟨m,hn⟩:=R.ns;exact ⟨m,hn.at' kl⟩
  cells:=λx hx=>by obtain ⟨v,o,ho,hd⟩:=R.cells x hx;exact ⟨v,o,kc x hx o ho,hd⟩
  cellNe:=R.cellNe
  cellInj:=R.cellInj
  comp:=λs c a e=>by obtain ⟨⟨m,hm⟩,r⟩:=R.comp s c a e;exact ⟨⟨m,hm.at' (kk s c a e)⟩,r⟩
  own:=R.own
  obj:=λq x e=>by
   by_cases hq:q=p
   · subst hq
     have:HT.find q (HT.put q o' s.hp)=some x:=e
     rw[HT.find_put] at this
     cases this
     exact ⟨a,b,he,hb.1,hb.2,O'⟩
   · have:HT.find q (HT.put p o' s.hp)=some x:=e
     rw[HT.find_put_ne o' p q s.hp hq] at this
     obtain ⟨a',b',h1,h2,h3,O⟩:=R.obj q x this
     refine ⟨a',b',h1,h2,h3,O.keep E (sb.2 b' λq'=>hq ?_) h2⟩
     subst q'
     exact R.inj q p x o a' a b' this hp h1 he
  inj:=λq r x y a1 a2 b1 e1 e2 h1 h2=>by
   have f1:∃x',HT.find q s.hp=some x':=by
    by_cases hq:q=p
    · exact ⟨o,hq▸hp⟩
    · have:HT.find q (HT.put p o' s.hp)=some x:=e1
      rw[HT.find_put_ne o' p q s.hp hq] at this
      exact ⟨x,this⟩
   have f2:∃x',HT.find r s.hp=some x':=by
    by_cases hq:r=p
    · exact ⟨o,hq▸hp⟩
    · have:HT.find r (HT.put p o' s.hp)=some y:=e2
      rw[HT.find_put_ne o' p r s.hp hq] at this
      exact ⟨y,this⟩
   obtain ⟨x',f1⟩:=f1
   obtain ⟨y',f2⟩:=f2
   exact R.inj q r x' y' a1 a2 b1 f1 f2 h1 h2
  nx:=R.nx
  base:=λx y e=>⟨(sb.2 x λq=>(R.base x y e).2 (w.sub _ (q▸hb.1))).trans (R.base x y e).1,(R.base x y e).2⟩
  dom:=λx hx=>by obtain ⟨o,e⟩:=R.dom x hx;exact E.stay _ _ e
  rest:=by obtain ⟨h,tk',e⟩:=R.rest;exact ⟨h',tk,by rw[e]⟩
  pin:=R.pin}
end
section
open Classical
section
variable {c:Cf} {f:Fm} {w:Wd} {s:St} {σ:Shared}
def Wd.new (w:Wd) (p:P) (a b:Addr):Wd where
 eta q:=if q=p then some (a,b) else w.eta q
 X x:=w.X x∨x=b
 W x:=w.W x∨x=b
 sub x h:=h.elim (λy=>.inl (w.sub x y)) .inr
theorem Wd.new_eta {w:Wd} {p:P} {a b:Addr}:(w.new p a b).eta p=some (a,b):=by
 show (if p=p then _ else _)=_
 rw[if_pos rfl]
theorem Ext.new {p:P} {a b:Addr} {h h':Heap} (hp:w.eta p=none) (hb:h.get? b=none) (k:∀a o,h.get? a=some o->h'.get? a=some o):Ext w h (w.new p a b) h' where
 eta q x e:=by
  have:q≠p:=λy=>by rw[y,hp] at e;cases e
  show (if q=p then _ else _)=_
  rw[if_neg this];exact e
 keep x o e _:=k x o e
 freshX x o e y:=y.elim id λq=>by rw[q,hb] at e;cases e
 freshW x o e y:=y.elim id λq=>by rw[q,hb] at e;cases e
 stay x o e:=⟨o,k x o e⟩
 mono _ h:=.inl h
theorem Rel.nxNone (R:Rel c f w s σ):w.eta s.nx=none:=by
 cases e:w.eta s.nx with
 |none=>rfl
 |some x=>exact absurd (R.nx _ _ e) (Nat.lt_irrefl _)
theorem Rel.new (R:Rel c f w s σ) {o:AObj} {a b:Addr} {h':Heap} {tk:Nat} (hb:σ.heap.get? b=none) (k:∀a o,σ.heap.get? a=some o->h'.get? a=some o)
  (O:ObjAt c (w.new s.nx a b) o a b h'):Rel c f (w.new s.nx a b) ⟨s.vars,s.cvars,HT.put s.nx o s.hp,P.succ s.nx,s.bd⟩ {σ with heap:=h',toks:=tk}∧Ext w σ.heap (w.new s.nx a b) h':=by
 have hn:=R.nxNone
 have E:Ext w σ.heap (w.new s.nx a b) h':=.new hn hb k
 have old:∀q x,HT.find q (HT.put s.nx o s.hp)=some x->(q=s.nx∧x=o)∨(q≠s.nx∧HT.find q s.hp=some x):=λq x e=>by
  by_cases hq:q=s.nx
  · subst hq
    rw[HT.find_put] at e
    cases e
    exact .inl ⟨rfl,rfl⟩
  · rw[HT.find_put_ne o _ _ _ hq] at e
    exact .inr ⟨hq,e⟩
 have ne:∀q x,HT.find q s.hp=some x->q≠s.nx:=λq x e y=>by
  obtain ⟨a',b',h1,_⟩:=R.obj q x e
  rw[y,hn] at h1;cases h1
 have etaNew:(w.new s.nx a b).eta s.nx=some (a,b):=by show (if s.nx=s.nx then _ else _)=_;rw[if_pos rfl]
 have ownB:¬f.Own b:=λq=>by
  rcases q with q|⟨x,hx,q⟩|⟨sc,cl,q⟩
  · obtain ⟨m,o',es,ep,e,_⟩:=R.ns
    rw[← q,hb] at e;cases e
  · obtain ⟨v,o',e,_⟩:=R.cells x hx
    rw[q,hb] at e;cases e
  · obtain ⟨⟨m,o',es,ep,e,_⟩,_⟩:=R.comp _ _ _ q
    rw[hb] at e;cases e
 refine ⟨{
  bd:=R.bd
  vars:=λx v e=>(R.vars x v e).ext E λn u H=>H.keep (k _) λx U=>k _
  cvars:=λx v e=>(R.cvars x v e).ext E λn u H=>H.keep λU U U U=>k _
  ns:=by obtain ⟨m,hn⟩:=R.ns;exact ⟨m,hn.at' (k _)⟩
  cells:=λx hx=>by obtain ⟨v,hv⟩:=R.cells x hx;exact ⟨v,hv.keeps k⟩
  cellNe:=R.cellNe
  cellInj:=R.cellInj
  comp:=λs c a e=>by obtain ⟨⟨m,hm⟩,r⟩:=R.comp s c a e;exact ⟨⟨m,hm.at' (k _)⟩,r⟩
  own:=λx y=>.inl (R.own x y)
  obj:=λq x e=>by
   rcases old q x e with ⟨rfl,rfl⟩|⟨hq,e'⟩
   · exact ⟨a,b,etaNew,.inr rfl,ownB,O⟩
   · obtain ⟨a',b',h1,h2,h3,O'⟩:=R.obj q x e'
     obtain ⟨y,hy⟩:=O'.here
     exact ⟨a',b',E.eta _ _ h1,.inl h2,h3,O'.keep E ((k _ _ hy).trans hy.symm) (.inl h2)⟩
  inj:=λq r x y a1 a2 b1 e1 e2 h1 h2=>by
   have body:∀q x a' b',HT.find q s.hp=some x->(w.new s.nx a b).eta q=some (a',b')->w.eta q=some (a',b')∧b'≠b:=λq x a' b' e h=>by
    obtain ⟨a3,b3,g1,_,_,O'⟩:=R.obj q x e
    rw[E.eta _ _ g1] at h
    cases h
    obtain ⟨y,hy⟩:=O'.here
    exact ⟨g1,λz=>by rw[z,hb] at hy;cases hy⟩
   rcases old q x e1 with ⟨rfl,rfl⟩|⟨hq,e1'⟩
   · rcases old r y e2 with ⟨rfl,rfl⟩|⟨hr,e2'⟩
     · rfl
     · rw[etaNew] at h1
       cases h1
       exact absurd rfl (body r y _ _ e2' h2).2
   · rcases old r y e2 with ⟨rfl,rfl⟩|⟨hr,e2'⟩
     · rw[etaNew] at h2
       cases h2
       exact absurd rfl (body q x _ _ e1' h1).2
     · exact R.inj q r x y a1 a2 b1 e1' e2' (body q x _ _ e1' h1).1 (body r y _ _ e2' h2).1
  nx:=λq x e=>by
   show q.toNat<(P.succ s.nx).toNat
   rw[P.succ_toNat]
   by_cases hq:q=s.nx
   · rw[hq];exact Nat.lt_succ_self _
   · have:(if q=s.nx then some (a,b) else w.eta q)=some x:=e
     rw[if_neg hq] at this
     exact Nat.lt_succ_of_lt (R.nx q x this)
  base:=λx y e=>⟨k _ _ (R.base x y e).1,λz=>z.elim (R.base x y e).2 λq=>by have:=(R.base x y e).1;rw[q,hb] at this;cases this⟩
  dom:=λx hx=>hx.elim (λh=>by obtain ⟨o,e⟩:=R.dom x h;exact E.stay _ _ e) λq=>q▸O.here
  rest:=by obtain ⟨h,tk',e⟩:=R.rest;exact ⟨h',tk,by rw[e]⟩
  pin:=λp a e=>E.eta _ _ (R.pin p a e)},E⟩
theorem Rel.setVar (R:Rel c f w s σ) {n:Str} {v:AV} {d:CD} {rv:Value} {h':Heap} {tk:Nat} {L:Addr} (hL:f.Own L) (hs:okS n=true) (C:Conc c.ρ v d) (r:Rd c.wo.params w σ.heap d rv) (sb:Heap.SameBut L σ.heap h')
  (hH:Holds f.env h' n rv) (hother:∀m u,m≠n->Holds f.env σ.heap m u->Holds f.env h' m u) (hns:∃m,h'.Ns f.env.locals m) (hcells:∀x∈f.env.cells,∃v,h'.IsCell x.2 v)
  (hcomp:∀s c a,f.comp=some (s,c,a)->∀o,σ.heap.get? a=some o->h'.get? a=some o) (hL':∃o,h'.get? L=some o):
  Rel c f w ⟨VL.set (sc n) v s.vars,s.cvars,s.hp,s.nx,s.bd⟩ {σ with heap:=h',toks:=tk}∧Ext w σ.heap w h':=by
 have E:Ext w σ.heap w h':=.write (R.own _ hL) sb hL'
 refine ⟨{
  bd:=R.bd
  vars:=λx u e=>by
   by_cases hx:x=sc n
   · subst hx
     have:VL.find (sc n) (VL.set (sc n) v s.vars)=some u:=e
     rw[VL.find_set] at this
     cases this
     exact ⟨n,d,rv,rfl,hs,C,r.ext E,hH⟩
   · have:VL.find x (VL.set (sc n) v s.vars)=some u:=e
     rw[VL.find_set_ne _ _ _ hx] at this
     obtain ⟨m,d',rv',h1,h2,h3,h4,h5⟩:=R.vars x u this
     exact ⟨m,d',rv',h1,h2,h3,h4.ext E,hother m rv' (λq=>hx (by rw[← h1,q])) h5⟩
  cvars:=λx v e=>(R.cvars x v e).ext E λn u H=>H.keep hcomp
  ns:=hns
  cells:=hcells
  cellNe:=R.cellNe
  cellInj:=R.cellInj
  comp:=λs c a e=>by obtain ⟨⟨m,hm⟩,r⟩:=R.comp s c a e;exact ⟨⟨m,hm.at' (hcomp s c a e)⟩,r⟩
  own:=R.own
  obj:=λq x e=>by
   obtain ⟨a,b,h1,h2,h3,O⟩:=R.obj q x e
   exact ⟨a,b,h1,h2,h3,O.keep E (sb.2 b λq=>h3 (q▸hL)) h2⟩
  inj:=R.inj
  nx:=R.nx
  base:=λx y e=>⟨(sb.2 x λq=>(R.base x y e).2 (w.sub _ (R.own _ (q▸hL)))).trans (R.base x y e).1,(R.base x y e).2⟩
  dom:=λx hx=>by obtain ⟨o,e⟩:=R.dom x hx;exact E.stay _ _ e
  rest:=by obtain ⟨h,tk',e⟩:=R.rest;exact ⟨h',tk,by rw[e]⟩
  pin:=λp a e=>E.eta _ _ (R.pin p a e)},E⟩
end
section
variable {c:Cf} {f:Fm} {w:Wd} {s:St} {σ:Shared} {A:Around} {E:Value->Shared->Prop}
theorem store_name (R:Rel c f w s σ) {n:Str} {v:AV} {d:CD} {rv:Value} {Q:Unit->Shared->Prop} (hf:f.comp=none) (hk:f.env.scope.kind=.function)
  (hn:f.env.kindOf n=some .local∨(f.env.kindOf n=some .cell∧(f.env.cells.lookup n).isSome=true)) (hs:okS n=true) (C:Conc c.ρ v d) (r:Rd c.wo.params w σ.heap d rv)
  (h:∀σ',Rel c f w ⟨VL.set (sc n) v s.vars,s.cvars,s.hp,s.nx,s.bd⟩ σ'->Ext w σ.heap w σ'.heap->Q () σ'):wpAny (model c.prog c.wo) A (storeName f.env n rv) Q E σ:=by
 have nc:∀s c a,f.comp=some (s,c,a)->∀{P:Prop},P:=λs c a e=>by rw[hf] at e;cases e
 rcases hn with hn|⟨hn,hl⟩
 · obtain ⟨m,hm⟩:=R.ns
   refine wpAny_storeName_local hn hm (λh' hn' hsb=>?_) (by rw[hk];rfl)
   have cellK:∀x∈f.env.cells,∀o,σ.heap.get? x.2=some o->h'.get? x.2=some o:=λx hx o e=>(hsb.2 _ (R.cellNe x hx)).trans e
   obtain ⟨R',X⟩:=R.setVar (n:=n) (v:=v) (tk:=σ.toks+1) (L:=f.env.locals) (.inl rfl) hs C r hsb (.inl ⟨hn,_,hn',by simp⟩)
    (λm' u hne H=>by
      rcases H with ⟨k,m₀,hm₀,e⟩|⟨k,a,hl,o,ho,hd⟩
      · exact .inl ⟨k,_,hn',by
         have:=hm.agree hm₀ m'
         show (if m'=n then _ else _)=_
         rw[if_neg hne,this];exact e⟩
      · exact .inr ⟨k,a,hl,o,cellK (m',a) (mem_of_lookup hl) o ho,hd⟩)
    ⟨_,hn'⟩ (λx hx=>by obtain ⟨v,o,ho,hd⟩:=R.cells x hx;exact ⟨v,o,cellK x hx o ho,hd⟩) (λs c a e=>nc s c a e) (by obtain ⟨o,_,_,e,_⟩:=hn';exact ⟨o,e⟩)
   exact h _ R' X
 · obtain ⟨a,ha⟩:=Option.isSome_iff_exists.mp hl
   have hmem:=mem_of_lookup ha
   obtain ⟨v₀,hv₀⟩:=R.cells _ hmem
   refine wpAny_storeName_cell hk hn ha hv₀ λh' hc hsb=>?_
   have locK:∀o,σ.heap.get? f.env.locals=some o->h'.get? f.env.locals=some o:=λo e=>(hsb.2 _ (Ne.symm (R.cellNe _ hmem))).trans e
   obtain ⟨R',X⟩:=R.setVar (n:=n) (v:=v) (tk:=σ.toks) (L:=a) (.inr (.inl ⟨_,hmem,rfl⟩)) hs C r hsb (.inr ⟨hn,a,ha,hc⟩)
    (λm' u hne H=>by
      rcases H with ⟨k,m₀,hm₀,e⟩|⟨k,a',hl',o,ho,hd⟩
      · exact .inl ⟨k,m₀,hm₀.at' locK,e⟩
      · exact .inr ⟨k,a',hl',o,(hsb.2 a' λq=>hne (R.cellInj _ (mem_of_lookup hl') _ hmem q)).trans ho,hd⟩)
    (by obtain ⟨m,hm⟩:=R.ns;exact ⟨m,hm.at' locK⟩)
    (λx hx=>by
      by_cases q:x.2=a
      · exact ⟨_,q▸hc⟩
      · obtain ⟨v,o,ho,hd⟩:=R.cells x hx
        exact ⟨v,o,(hsb.2 _ q).trans ho,hd⟩) (λs c a e=>nc s c a e) (by obtain ⟨o,e,_⟩:=hc;exact ⟨o,e⟩)
   exact h _ R' X
theorem load_name (R:Rel c f w s σ) {n:Str} {v:AV} {Q:Value->Shared->Prop} (hf:f.comp=none) (hk:f.env.scope.kind=.function) (hs:okS n=true) (hv:VL.find (sc n) s.vars=some v)
  (h:∀d rv,Conc c.ρ v d->Rd c.wo.params w σ.heap d rv->Q rv σ):wpAny (model c.prog c.wo) A (loadName f.env n) Q E σ:=by
 obtain ⟨m,d,rv,h1,h2,C,r,H⟩:=R.vars _ _ hv
 obtain rfl:=sc_inj h2 hs h1
 rcases H with ⟨k,m₀,hm₀,e⟩|⟨k,a,hl,hc⟩
 · exact wpAny_loadName_local hk k hm₀ e (h d rv C r)
 · exact wpAny_loadName_cell hk k hl hc (h d rv C r)
end
end
structure Room (A:Around) (lvl:Nat):Prop where
 handled:A.handled=none
 depth:A.depth+3*lvl+30<recursionLimit
 units:A.units+40*lvl+200<cLine
structure Cx where
 scope:Scope
 comp:Option Scope
structure FrOK (x:Cx) (f:Fm):Prop where
 scope:f.env.scope=x.scope
 kind:x.scope.kind=.function
 globals:f.env.globals=mainGlobals
 builtins:f.env.builtins=builtinsNs
 cells:∀n,f.env.kindOf n=some .cell->(f.env.cells.lookup n).isSome=true
 comp:match x.comp with
  |none=>f.comp=none
  |some s=>∃cl a,f.comp=some (s,cl,a)∧s.kind=.function∧closureFor s f.env=pure cl∧∀n,s.names.lookup n=some .free->cl.lookup n=f.env.cells.lookup n
section
variable (c:Cf)
def Post (f:Fm) (w:Wd) (h:Heap) (k:K AV) (Q:Value->Shared->Prop):Prop:=
 ∀v s' w' σ' d rv,k v s'=true->Rel c f w' s' σ'->Ext w h w' σ'.heap->Conc c.ρ v d->Rd c.wo.params w' σ'.heap d rv->Q rv σ'
def PostU (f:Fm) (w:Wd) (h:Heap) (k:St->Bool) (Q:Shared->Prop):Prop:=
 ∀s' w' σ',k s'=true->Rel c f w' s' σ'->Ext w h w' σ'.heap->Q σ'
def SoundE (lvl:Nat) (x:Cx) (e:Expr) (C:C):Prop:=
 ∀f w s σ A (Q:Value->Shared->Prop) E k,FrOK x f->C s k=true->Rel c f w s σ->Room A lvl->Post c f w σ.heap k Q->wpAny (model c.prog c.wo) A (eval e f.cur) Q E σ
def SoundT (lvl:Nat) (x:Cx) (e:Expr) (T:T):Prop:=
 ∀f w s σ A (Q:Bool->Shared->Prop) E t u,FrOK x f->T s t u=true->Rel c f w s σ->Room A lvl->PostU c f w σ.heap t (Q true)->PostU c f w σ.heap u (Q false)->wpAny (model c.prog c.wo) A (isTrue e f.cur (eval e f.cur)) Q E σ
def SoundB (op:Operator) (g:Op):Prop:=
 ∀f w s σ A (Q:Value->Shared->Prop) E k x y dx dy u v,g x y s k=true->Rel c f w s σ->Room A 0->Conc c.ρ x dx->Conc c.ρ y dy->Rd c.wo.params w σ.heap dx u->Rd c.wo.params w σ.heap dy v->Post c f w σ.heap k Q->
  wpAny (model c.prog c.wo) A (binaryOp op u v) Q E σ
end
section
variable {c:Cf} {lvl:Nat} {x:Cx}
theorem Room.down {A:Around} {l m:Nat} (R:Room A l) (h:m≤l):Room A m:=⟨R.handled,by have:=R.depth;omega,by have:=R.units;omega⟩
theorem Post.ext {f:Fm} {w w':Wd} {h h':Heap} {k:K AV} {Q:Value->Shared->Prop} (P:Post c f w h k Q) (E:Ext w h w' h'):Post c f w' h' k Q:=
 λv s w'' σ d rv e R X C r=>P v s w'' σ d rv e R (E.trans X) C r
theorem PostU.ext {f:Fm} {w w':Wd} {h h':Heap} {k:St->Bool} {Q:Shared->Prop} (P:PostU c f w h k Q) (E:Ext w h w' h'):PostU c f w' h' k Q:=
 λs w'' σ e R X=>P s w'' σ e R (E.trans X)
theorem Post.now {f:Fm} {w:Wd} {s:St} {σ:Shared} {k:K AV} {Q:Value->Shared->Prop} {v:AV} {d:CD} {rv:Value} (P:Post c f w σ.heap k Q) (e:k v s=true) (R:Rel c f w s σ) (C:Conc c.ρ v d) (r:Rd c.wo.params w σ.heap d rv):Q rv σ:=
 P v s w σ d rv e R (.refl _ _) C r
theorem Post.int {f:Fm} {w:Wd} {s:St} {σ:Shared} {k:K AV} {Q:Value->Shared->Prop} {v:AV} {i:Int} {t:Tok} (P:Post c f w σ.heap k Q) (e:k v s=true) (R:Rel c f w s σ) (C:Conc c.ρ v (.int i)):
  Q (.int i t) {σ with toks:=σ.toks+1}:=P v s w {σ with toks:=σ.toks+1} _ _ e R.toks (.refl _ _) C (.int i t)
theorem sound_bin {op:Operator} {g:Op} {l r:Expr} {a b:C} {pos:Pos} (G:SoundB c op g) (L:SoundE c lvl x l a) (R:SoundE c lvl x r b):SoundE c lvl x (.BinOp l op r pos) (bin g a b):=by
 intro f w s σ A Q E k fo h rel rm post
 show wpAny _ A (do let a ←eval l f.cur;let b ←holding [a] (eval r f.cur);standAt pos;operate [a,b] (binaryOp op a b)) Q E σ
 refine wpAny_bind (L f w s σ A _ E _ fo h rel rm ?_)
 intro v s1 w1 σ1 d1 u e1 rel1 X1 C1 r1
 refine wpAny_bind (wpAny_holding (R f w1 s1 σ1 A _ E _ fo e1 rel1 rm ?_))
 intro v2 s2 w2 σ2 d2 u2 e2 rel2 X2 C2 r2
 refine wpAny_bind (wpAny_standAt (wpAny_operate' ?_))
 exact G f w2 s2 σ2 A Q E k v v2 d1 d2 u u2 e2 rel2 (rm.down (Nat.zero_le _)) C1 C2 (r1.ext X2) r2 (post.ext (X1.trans X2))
theorem ite_true {b t f:Bool} (h:ite b t f=true):(b=true∧t=true)∨(b=false∧f=true):=by
 cases b with
 |true=>exact .inl ⟨rfl,h⟩
 |false=>exact .inr ⟨rfl,h⟩
end
section
variable {ρ:Rho}
theorem Conc.nat' {n:Nat} {i:Int} (h:i=(n:Int)):Conc ρ (.nat n) (.int i):=h▸.nat n
theorem Conc.neg' {n:Nat} {i:Int} (h:i= -(n:Int)-1):Conc ρ (.neg n) (.int i):=by
 have:i=Int.negSucc n:=by rw[h,Int.negSucc_eq];omega
 exact this▸.neg n
theorem Conc.sym' {a k:Nat} {i:Int} (h:i=ρ.val a+(k:Int)):Conc ρ (.sym a k) (.int i):=h▸.sym a k
theorem Conc.rng' {lo hi:Nat} {i:Int} (h:(lo:Int)≤i) (h':i≤(hi:Int)):Conc ρ (.rng lo hi) (.int i):=.rng lo hi i h h'
theorem Conc.num {x:AV} {i:Int} (C:Conc ρ x (.int i)):(∃n:Nat,x=.nat n∧i=n)∨(∃n:Nat,x=.neg n∧i= -(n:Int)-1)∨(∃a k:Nat,x=.sym a k∧i=ρ.val a+k)∨
  (∃lo hi:Nat,x=.rng lo hi∧(lo:Int)≤i∧i≤hi)∨x=.any:=by
 cases C with
 |nat n=>exact .inl ⟨n,rfl,rfl⟩
 |neg n=>exact .inr (.inl ⟨n,rfl,by rw[Int.negSucc_eq];omega⟩)
 |sym a k=>exact .inr (.inr (.inl ⟨a,k,rfl,rfl⟩))
 |rng lo hi _ h1 h2=>exact .inr (.inr (.inr (.inl ⟨lo,hi,rfl,h1,h2⟩)))
 |any=>exact .inr (.inr (.inr (.inr rfl)))
variable {s:St} {k:K AV}
theorem subN_true {a b:Nat} {i:Int} (hi:i=(a:Int)-b) (h:subN a b s k=true):∃v,k v s=true∧Conc ρ v (.int i):=by
 unfold subN at h
 rcases ite_true h with ⟨e,h⟩|⟨e,h⟩
 · have:=Nat.le_of_ble_eq_true e
   exact ⟨_,h,.nat' (by show _=((a-b:Nat):Int);omega)⟩
 · have:¬b≤a:=λq=>by rw[Nat.ble_eq_true_of_le q] at e;cases e
   exact ⟨_,h,.neg' (by show _= -((b-a-1:Nat):Int)-1;omega)⟩
theorem boolRec_true {b t f:Bool} (h:(Bool.rec f t b:Bool)=true):(b=true∧t=true)∨(b=false∧f=true):=by
 cases b with
 |true=>exact .inl ⟨rfl,h⟩
 |false=>exact .inr ⟨rfl,h⟩
theorem addNum {x y:AV} {i j:Int} (X:Conc ρ x (.int i)) (Y:Conc ρ y (.int j)) (h:oAdd x y s k=true):∃v,k v s=true∧Conc ρ v (.int (i+j)):=by
 rcases X.num with ⟨n,rfl,rfl⟩|⟨n,rfl,rfl⟩|⟨a,n,rfl,rfl⟩|⟨lo,hi,rfl,x1,x2⟩|rfl
 · rcases Y.num with ⟨m,rfl,rfl⟩|⟨m,rfl,rfl⟩|⟨b,m,rfl,rfl⟩|⟨lo',hi',rfl,y1,y2⟩|rfl
   · exact ⟨.nat (Nat.add n m),h,.nat' (by show _=((n+m:Nat):Int);omega)⟩
   · exact subN_true (a:=n) (b:=Nat.succ m) (by omega) h
   · have h:(Bool.rec (k (.sym b (Nat.add n m)) s) (k (.nat (Nat.add n m)) s) (Nat.beq b 0):Bool)=true:=h
     rcases boolRec_true h with ⟨e,h⟩|⟨e,h⟩
     · rw[Nat.eq_of_beq_eq_true e,ρ.zero]
       exact ⟨_,h,.nat' (by show _=((n+m:Nat):Int);omega)⟩
     · exact ⟨_,h,.sym' (by show _=_+((n+m:Nat):Int);omega)⟩
   · exact ⟨.rng (Nat.add n lo') (Nat.add n hi'),h,.rng' (by show ((n+lo':Nat):Int)≤_;omega) (by show _≤((n+hi':Nat):Int);omega)⟩
   · exact ⟨.any,h,.any _⟩
 · rcases Y.num with ⟨m,rfl,rfl⟩|⟨m,rfl,rfl⟩|⟨b,m,rfl,rfl⟩|⟨lo',hi',rfl,y1,y2⟩|rfl
   · exact subN_true (a:=m) (b:=Nat.succ n) (by omega) h
   · exact ⟨.neg (Nat.succ (Nat.add n m)),h,.neg' (by show _= -((n+m+1:Nat):Int)-1;omega)⟩
   · have h:ite (Nat.beq b 0) (subN m (Nat.succ n) s k) (k .any s)=true:=h
     rcases ite_true h with ⟨e,h⟩|⟨e,h⟩
     · rw[Nat.eq_of_beq_eq_true e,ρ.zero]
       exact subN_true (a:=m) (b:=Nat.succ n) (by omega) h
     · exact ⟨_,h,.any _⟩
   · exact ⟨.any,h,.any _⟩
   · exact ⟨.any,h,.any _⟩
 · rcases Y.num with ⟨m,rfl,rfl⟩|⟨m,rfl,rfl⟩|⟨b,m,rfl,rfl⟩|⟨lo',hi',rfl,y1,y2⟩|rfl
   · exact ⟨.sym a (Nat.add n m),h,.sym' (by show _=_+((n+m:Nat):Int);omega)⟩
   · exact ⟨.any,h,.any _⟩
   · have h:(Bool.rec (k .any s) (k (.sym a (Nat.add n m)) s) (Nat.beq b 0):Bool)=true:=h
     rcases boolRec_true h with ⟨e,h⟩|⟨e,h⟩
     · rw[Nat.eq_of_beq_eq_true e,ρ.zero]
       exact ⟨_,h,.sym' (by show _=_+((n+m:Nat):Int);omega)⟩
     · exact ⟨_,h,.any _⟩
   · exact ⟨.any,h,.any _⟩
   · exact ⟨.any,h,.any _⟩
 · rcases Y.num with ⟨m,rfl,rfl⟩|⟨m,rfl,rfl⟩|⟨b,m,rfl,rfl⟩|⟨lo',hi',rfl,y1,y2⟩|rfl
   · exact ⟨.rng (Nat.add lo m) (Nat.add hi m),h,.rng' (by show ((lo+m:Nat):Int)≤_;omega) (by show _≤((hi+m:Nat):Int);omega)⟩
   · exact ⟨.any,h,.any _⟩
   · have h:(Bool.rec (k .any s) (k (.rng (Nat.add lo m) (Nat.add hi m)) s) (Nat.beq b 0):Bool)=true:=h
     rcases boolRec_true h with ⟨e,h⟩|⟨e,h⟩
     · rw[Nat.eq_of_beq_eq_true e,ρ.zero]
       exact ⟨_,h,.rng' (by show ((lo+m:Nat):Int)≤_;omega) (by show _≤((hi+m:Nat):Int);omega)⟩
     · exact ⟨_,h,.any _⟩
   · exact ⟨.rng (Nat.add lo lo') (Nat.add hi hi'),h,.rng' (by show ((lo+lo':Nat):Int)≤_;omega) (by show _≤((hi+hi':Nat):Int);omega)⟩
   · exact ⟨.any,h,.any _⟩
 · rcases Y.num with ⟨m,rfl,rfl⟩|⟨m,rfl,rfl⟩|⟨b,m,rfl,rfl⟩|⟨lo',hi',rfl,y1,y2⟩|rfl<;>exact ⟨.any,h,.any _⟩
end
section
variable {ρ:Rho}
theorem BL.get_true {a b:Nat} {k:Nat->Nat->Bool} {d:Bool}:∀{l:BL},BOk ρ l->BL.get a b l k d=true->(∃lo hi:Nat,(lo:Int)≤ρ.val a-ρ.val b∧ρ.val a-ρ.val b≤hi∧k lo hi=true)∨d=true
 | .nil,_,h=>.inr h
 | .cons a' b' lo hi l,B,h=>by
   have h:(Bool.rec (BL.get a b l k d) (k lo hi) (and (Nat.beq a' a) (Nat.beq b' b)):Bool)=true:=h
   rcases boolRec_true h with ⟨e,g⟩|⟨e,g⟩
   · rw[Bool.and_eq_true] at e
     have e1:=Nat.eq_of_beq_eq_true e.1
     have e2:=Nat.eq_of_beq_eq_true e.2
     have B1:=B.1
     rw[e1,e2] at B1
     exact .inl ⟨lo,hi,B1.1,B1.2,g⟩
   · exact BL.get_true B.2 g
def Dec (P:Prop) (t f:Bool):Prop:=(P->t=true)∧(¬P->f=true)
theorem Dec.yes {P:Prop} {t f:Bool} (h:P) (e:t=true):Dec P t f:=⟨λU=>e,λn=>absurd h n⟩
theorem Dec.no {P:Prop} {t f:Bool} (h:¬P) (e:f=true):Dec P t f:=⟨λp=>absurd p h,λU=>e⟩
theorem Dec.both {P:Prop} {t f:Bool} (e:and t f=true):Dec P t f:=by
 rw[Bool.and_eq_true] at e
 exact ⟨λU=>e.1,λU=>e.2⟩
theorem Dec.iff {P P':Prop} {t f:Bool} (h:P↔P') (d:Dec P t f):Dec P' t f:=⟨λp=>d.1 (h.mpr p),λn=>d.2 λp=>n (h.mp p)⟩
theorem ble_true {a b:Nat} (h:Nat.ble a b=true):a≤b:=Nat.le_of_ble_eq_true h
theorem ble_false {a b:Nat} (h:Nat.ble a b=false):¬a≤b:=λq=>by rw[Nat.ble_eq_true_of_le q] at h;cases h
theorem beq_true {a b:Nat} (h:Nat.beq a b=true):a=b:=Nat.eq_of_beq_eq_true h
theorem beq_false {a b:Nat} (h:Nat.beq a b=false):a≠b:=λq=>by rw[q,Nat.beq_refl] at h;cases h
theorem leS_dec {bd:BL} {a k b m:Nat} {t f:Bool} (B:BOk ρ bd) (h:leS bd a k b m t f=true):Dec (ρ.val a+(k:Int)≤ρ.val b+m) t f:=by
 unfold leS at h
 rcases ite_true h with ⟨e,h⟩|⟨_,h⟩
 · rw[beq_true e]
   rcases ite_true h with ⟨e,h⟩|⟨e,h⟩
   · exact .yes (by have:=ble_true e;omega) h
   · exact .no (by have:=ble_false e;omega) h
 · rcases BL.get_true B h with ⟨lo,hi,h1,h2,h⟩|h
   · rcases ite_true h with ⟨e,h⟩|⟨e,h⟩
     · have e:hi+k≤m:=ble_true e
       exact .yes (by omega) h
     · rcases ite_true h with ⟨e,h⟩|⟨e,h⟩
       · exact .both h
       · have e:¬lo+k≤m:=ble_false e
         exact .no (by omega) h
   · rcases BL.get_true B h with ⟨lo,hi,h1,h2,h⟩|h
     · rcases ite_true h with ⟨e,h⟩|⟨e,h⟩
       · have e:k≤lo+m:=ble_true e
         exact .yes (by omega) h
       · rcases ite_true h with ⟨e,h⟩|⟨e,h⟩
         · exact .both h
         · have e:¬k≤hi+m:=ble_false e
           exact .no (by omega) h
     · exact .both h
theorem eqS_dec {bd:BL} {a k b m:Nat} {t f:Bool} (B:BOk ρ bd) (h:eqS bd a k b m t f=true):Dec (ρ.val a+(k:Int)=ρ.val b+m) t f:=by
 unfold eqS at h
 rcases ite_true h with ⟨e,h⟩|⟨_,h⟩
 · rw[beq_true e]
   rcases ite_true h with ⟨e,h⟩|⟨e,h⟩
   · exact .yes (by have:=beq_true e;omega) h
   · exact .no (by have:=beq_false e;omega) h
 · rcases BL.get_true B h with ⟨lo,hi,h1,h2,h⟩|h
   · rcases ite_true h with ⟨e,h⟩|⟨e,h⟩
     · exact .both h
     · refine .no (λq=>?_) h
       rw[Bool.and_eq_false_iff] at e
       rcases e with e|e
       · have e:¬lo+k≤m:=ble_false e
         omega
       · have e:¬m≤hi+k:=ble_false e
         omega
   · rcases BL.get_true B h with ⟨lo,hi,h1,h2,h⟩|h
     · rcases ite_true h with ⟨e,h⟩|⟨e,h⟩
       · exact .both h
       · refine .no (λq=>?_) h
         rw[Bool.and_eq_false_iff] at e
         rcases e with e|e
         · have e:¬lo+m≤k:=ble_false e
           omega
         · have e:¬k≤hi+m:=ble_false e
           omega
     · exact .both h
theorem leV_dec {bd:BL} {x y:AV} {i j:Int} {t f:Bool} (B:BOk ρ bd) (X:Conc ρ x (.int i)) (Y:Conc ρ y (.int j)) (h:leV bd x y t f=true):Dec (i≤j) t f:=by
 rcases X.num with ⟨n,rfl,rfl⟩|⟨n,rfl,rfl⟩|⟨a,n,rfl,rfl⟩|⟨lo,hi,rfl,x1,x2⟩|rfl
 · rcases Y.num with ⟨m,rfl,rfl⟩|⟨m,rfl,rfl⟩|⟨b,m,rfl,rfl⟩|⟨lo',hi',rfl,y1,y2⟩|rfl
   · have h:leS bd 0 n 0 m t f=true:=h
     exact (leS_dec B h).iff (by rw[ρ.zero];omega)
   · have h:ite (Nat.beq 0 0) f (and t f)=true:=h
     exact .no (by omega) h
   · have h:leS bd 0 n b m t f=true:=h
     exact (leS_dec B h).iff (by rw[ρ.zero];omega)
   · have h:leS bd 0 n 0 lo' t (leS bd 0 n 0 hi' (and t f) f)=true:=h
     have d:=leS_dec B h
     rw[ρ.zero] at d
     by_cases q:(n:Int)≤lo'
     · exact .yes (by omega) (d.1 (by omega))
     · have d2:=leS_dec B (d.2 (by omega))
       rw[ρ.zero] at d2
       by_cases q2:(n:Int)≤hi'
       · exact .both (d2.1 (by omega))
       · exact .no (by omega) (d2.2 (by omega))
   · exact .both h
 · rcases Y.num with ⟨m,rfl,rfl⟩|⟨m,rfl,rfl⟩|⟨b,m,rfl,rfl⟩|⟨lo',hi',rfl,y1,y2⟩|rfl
   · have h:ite (Nat.beq 0 0) t (and t f)=true:=h
     exact .yes (by omega) h
   · have h:ite (Nat.ble m n) t f=true:=h
     rcases ite_true h with ⟨e,h⟩|⟨e,h⟩
     · exact .yes (by have:=ble_true e;omega) h
     · exact .no (by have:=ble_false e;omega) h
   · have h:ite (Nat.beq b 0) t (and t f)=true:=h
     rcases ite_true h with ⟨e,h⟩|⟨e,h⟩
     · exact .yes (by rw[beq_true e,ρ.zero];omega) h
     · exact .both h
   · have h:t=true:=h
     exact .yes (by omega) h
   · exact .both h
 · rcases Y.num with ⟨m,rfl,rfl⟩|⟨m,rfl,rfl⟩|⟨b,m,rfl,rfl⟩|⟨lo',hi',rfl,y1,y2⟩|rfl
   · have h:leS bd a n 0 m t f=true:=h
     exact (leS_dec B h).iff (by rw[ρ.zero];omega)
   · have h:ite (Nat.beq a 0) f (and t f)=true:=h
     rcases ite_true h with ⟨e,h⟩|⟨e,h⟩
     · exact .no (by rw[beq_true e,ρ.zero];omega) h
     · exact .both h
   · have h:leS bd a n b m t f=true:=h
     exact leS_dec B h
   · have h:leS bd a n 0 lo' t (leS bd a n 0 hi' (and t f) f)=true:=h
     have d:=leS_dec B h
     rw[ρ.zero] at d
     by_cases q:ρ.val a+(n:Int)≤lo'
     · exact .yes (by omega) (d.1 (by omega))
     · have d2:=leS_dec B (d.2 (by omega))
       rw[ρ.zero] at d2
       by_cases q2:ρ.val a+(n:Int)≤hi'
       · exact .both (d2.1 (by omega))
       · exact .no (by omega) (d2.2 (by omega))
   · exact .both h
 · rcases Y.num with ⟨m,rfl,rfl⟩|⟨m,rfl,rfl⟩|⟨b,m,rfl,rfl⟩|⟨lo',hi',rfl,y1,y2⟩|rfl
   · have h:leS bd 0 hi 0 m t (leS bd 0 lo 0 m (and t f) f)=true:=h
     have d:=leS_dec B h
     rw[ρ.zero] at d
     by_cases q:(hi:Int)≤m
     · exact .yes (by omega) (d.1 (by omega))
     · have d2:=leS_dec B (d.2 (by omega))
       rw[ρ.zero] at d2
       by_cases q2:(lo:Int)≤m
       · exact .both (d2.1 (by omega))
       · exact .no (by omega) (d2.2 (by omega))
   · have h:f=true:=h
     exact .no (by omega) h
   · have h:leS bd 0 hi b m t (leS bd 0 lo b m (and t f) f)=true:=h
     have d:=leS_dec B h
     rw[ρ.zero] at d
     by_cases q:(hi:Int)≤ρ.val b+m
     · exact .yes (by omega) (d.1 (by omega))
     · have d2:=leS_dec B (d.2 (by omega))
       rw[ρ.zero] at d2
       by_cases q2:(lo:Int)≤ρ.val b+m
       · exact .both (d2.1 (by omega))
       · exact .no (by omega) (d2.2 (by omega))
   · exact .both h
   · exact .both h
 · rcases Y.num with ⟨m,rfl,rfl⟩|⟨m,rfl,rfl⟩|⟨b,m,rfl,rfl⟩|⟨lo',hi',rfl,y1,y2⟩|rfl<;>exact .both h
end
section
variable {ρ:Rho}
theorem asNum_dec {x:AV} {d:CD} {sy:Nat->Nat->Bool} {ng:Nat->Bool} {r:Nat->Nat->Bool} {u e:Bool} (X:Conc ρ x d) (h:asNum x sy ng r u e=true):
  (∃i:Int,d=.int i∧((∃a k:Nat,i=ρ.val a+k∧sy a k=true)∨(∃n:Nat,i= -(n:Int)-1∧ng n=true)∨(∃lo hi:Nat,(lo:Int)≤i∧i≤hi∧r lo hi=true)∨u=true))∨
    ((∀i,d≠.int i)∧(∀b,d≠.bool b)∧e=true):=by
 cases X with
 |nat n=>exact .inl ⟨_,rfl,.inl ⟨0,n,by rw[ρ.zero];omega,h⟩⟩
 |neg n=>exact .inl ⟨_,rfl,.inr (.inl ⟨n,by rw[Int.negSucc_eq];omega,h⟩)⟩
 |sym a k=>exact .inl ⟨_,rfl,.inl ⟨a,k,rfl,h⟩⟩
 |rng lo hi i h1 h2=>exact .inl ⟨_,rfl,.inr (.inr (.inl ⟨lo,hi,h1,h2,h⟩))⟩
 |any i=>exact .inl ⟨_,rfl,.inr (.inr (.inr h))⟩
 |bool b=>exact fF h
 |_=>exact .inr ⟨(λU q=>by injection q),(λU q=>by injection q),h⟩
theorem eqv_int {i:Int} {d:CD} (h:∀j,d≠.int j) (h':∀b,d≠.bool b):PyData.eqv (CD.py (.int i)) d.py=false:=by
 cases d with
 |int j=>exact absurd rfl (h j)
 |bool b=>exact absurd rfl (h' b)
 |_=>rfl
theorem eqv_ints {i j:Int}:(PyData.eqv (CD.py (.int i)) (CD.py (.int j))=true)↔i=j:=by
 exact beq_iff_eq
theorem eqNum_dec {bd:BL} {y:AV} {d:CD} {a k:Nat} {t f:Bool} (B:BOk ρ bd) (Y:Conc ρ y d) (h:eqNum bd y a k t f=true):Dec (PyData.eqv (CD.py (.int (ρ.val a+k))) d.py=true) t f:=by
 unfold eqNum at h
 rcases asNum_dec Y h with ⟨i,rfl,h|h|h|h⟩|⟨h1,h2,h⟩
 · obtain ⟨b,m,e,h⟩:=h
   exact (eqS_dec B h).iff (by rw[eqv_ints];omega)
 · obtain ⟨n,e,h⟩:=h
   rcases ite_true h with ⟨q,h⟩|⟨q,h⟩
   · exact .no (by rw[eqv_ints,beq_true q,ρ.zero];omega) h
   · exact .both h
 · obtain ⟨lo,hi,x1,x2,h⟩:=h
   have d1:=leS_dec B h
   rw[ρ.zero] at d1
   by_cases q:(0:Int)+lo≤ρ.val a+k
   · have d2:=leS_dec B (d1.1 q)
     rw[ρ.zero] at d2
     by_cases q2:ρ.val a+(k:Int)≤0+hi
     · exact .both (d2.1 q2)
     · exact .no (by rw[eqv_ints];omega) (d2.2 q2)
   · exact .no (by rw[eqv_ints];omega) (d1.2 q)
 · exact .both h
 · exact .no (by rw[eqv_int h1 h2];exact Bool.false_ne_true) h
end
section
variable {ρ:Rho}
theorem fne {x:Bool} (h:x=false):¬x=true:=by rw[h];exact Bool.false_ne_true
theorem eqV_dec {bd:BL} (B:BOk ρ bd) (x:AV):(∀y t f dx dy,eqV bd x y t f=true->Conc ρ x dx->Conc ρ y dy->Dec (PyData.eqv dx.py dy.py=true) t f)∧
  (∀y t f dx dy,eqV bd x y t f=true->ConcL ρ x dx->ConcL ρ y dy->Dec (PyData.eqvAll (CD.pys dx) (CD.pys dy)=true) t f):=by
 induction x with
 |none=>
  refine ⟨λy t f dx dy h X Y=>?_,λy t f dx dy h X Y=>X.inv⟩
  cases X
  cases Y with
  |none=>exact .yes rfl h
  |_=>first|exact .no (fne rfl) h|exact fF h
 |bool b=>
  refine ⟨λy t f dx dy h X Y=>?_,λy t f dx dy h X Y=>X.inv⟩
  cases X
  cases Y with
  |bool c=>
   have h:ite (Bool.rec (not c) c b) t f=true:=h
   have e:(Bool.rec (not c) c b:Bool)=(b==c):=by cases b<;>cases c<;>rfl
   rw[e] at h
   have e2:PyData.eqv (CD.py (.bool b)) (CD.py (.bool c))=(b==c):=rfl
   rcases ite_true h with ⟨q,h⟩|⟨q,h⟩
   · exact .yes (e2.trans q) h
   · exact .no (fne (e2.trans q)) h
  |_=>first|exact .no (fne rfl) h|exact fF h
 |nat n=>
  refine ⟨λy t f dx dy h X Y=>?_,λy t f dx dy h X Y=>X.inv⟩
  cases X
  have h:eqNum bd y 0 n t f=true:=by cases Y<;>exact h
  have:=eqNum_dec (a:=0) (k:=n) B Y h
  rw[ρ.zero,Int.zero_add] at this
  exact this
 |neg n=>
  refine ⟨λy t f dx dy h X Y=>?_,λy t f dx dy h X Y=>X.inv⟩
  cases X
  have h:asNum y (λa U=>ite (Nat.beq a 0) f (and t f)) (λm=>ite (Nat.beq m n) t f) (λU U=>f) (and t f) f=true:=h
  rcases asNum_dec Y h with ⟨i,rfl,h|h|h|h⟩|⟨h1,h2,h⟩
  · obtain ⟨a,k,e,h⟩:=h
    rcases ite_true h with ⟨q,h⟩|⟨q,h⟩
    · exact .no (by rw[eqv_ints,e,beq_true q,ρ.zero,Int.negSucc_eq];omega) h
    · exact .both h
  · obtain ⟨m,e,h⟩:=h
    rcases ite_true h with ⟨q,h⟩|⟨q,h⟩
    · exact .yes (by rw[eqv_ints,e,beq_true q,Int.negSucc_eq];omega) h
    · exact .no (by have:=beq_false q;rw[eqv_ints,e,Int.negSucc_eq];omega) h
  · obtain ⟨lo,hi,x1,x2,h⟩:=h
    exact .no (by rw[eqv_ints,Int.negSucc_eq];omega) h
  · exact .both h
  · exact .no (by rw[eqv_int h1 h2];exact Bool.false_ne_true) h
 |sym a k=>
  refine ⟨λy t f dx dy h X Y=>?_,λy t f dx dy h X Y=>X.inv⟩
  cases X
  exact eqNum_dec (a:=a) (k:=k) B Y h
 |rng lo hi=>
  refine ⟨λy t f dx dy h X Y=>?_,λy t f dx dy h X Y=>X.inv⟩
  cases X with
  |rng _ _ j j1 j2=>
  have h:asNum y (λa k=>leS bd 0 lo a k (leS bd a k 0 hi (and t f) f) f) (λU=>f) (λU U=>and t f) (and t f) f=true:=h
  rcases asNum_dec Y h with ⟨i,rfl,h|h|h|h⟩|⟨h1,h2,h⟩
  · obtain ⟨a,k,e,h⟩:=h
    have d1:=leS_dec B h
    rw[ρ.zero] at d1
    by_cases q:(0:Int)+lo≤ρ.val a+k
    · have d2:=leS_dec B (d1.1 q)
      rw[ρ.zero] at d2
      by_cases q2:ρ.val a+(k:Int)≤0+hi
      · exact .both (d2.1 q2)
      · exact .no (by rw[eqv_ints];omega) (d2.2 q2)
    · exact .no (by rw[eqv_ints];omega) (d1.2 q)
  · obtain ⟨n,e,h⟩:=h
    exact .no (by rw[eqv_ints];omega) h
  · obtain ⟨_,_,_,_,h⟩:=h
    exact .both h
  · exact .both h
  · exact .no (by rw[eqv_int h1 h2];exact Bool.false_ne_true) h
 |any=>
  refine ⟨λy t f dx dy h X Y=>?_,λy t f dx dy h X Y=>X.inv⟩
  cases X with
  |any j=>
  have h:asNum y (λU U=>and t f) (λU=>and t f) (λU U=>and t f) (and t f) f=true:=h
  rcases asNum_dec Y h with ⟨i,rfl,h|h|h|h⟩|⟨h1,h2,h⟩
  · obtain ⟨_,_,_,h⟩:=h;exact .both h
  · obtain ⟨_,_,h⟩:=h;exact .both h
  · obtain ⟨_,_,_,_,h⟩:=h;exact .both h
  · exact .both h
  · exact .no (by rw[eqv_int h1 h2];exact Bool.false_ne_true) h
 |str cd=>
  refine ⟨λy t f dx dy h X Y=>?_,λy t f dx dy h X Y=>X.inv⟩
  cases X with
  |str s o=>
  cases Y with
  |str s' o'=>
   have h:ite (Nat.beq (sc s) (sc s')) t f=true:=h
   have e2:(PyData.eqv (CD.py (.str s)) (CD.py (.str s'))=true)↔s=s':=beq_iff_eq
   rcases ite_true h with ⟨q,h⟩|⟨q,h⟩
   · exact .yes (e2.mpr (sc_inj o o' (beq_true q))) h
   · exact .no (λz=>beq_false q (by rw[e2.mp z])) h
  |sany s'=>exact .both h
  |_=>first|exact .no (fne rfl) h|exact fF h
 |sany=>exact ⟨λy t f dx dy h X Y=>(fF h),λy t f dx dy h X Y=>X.inv⟩
 |byt xs ih=>exact ⟨λy t f dx dy h X Y=>(fF h),λy t f dx dy h X Y=>X.inv⟩
 |dic xs ih=>exact ⟨λy t f dx dy h X Y=>(fF h),λy t f dx dy h X Y=>X.inv⟩
 |loc p=>exact ⟨λy t f dx dy h X Y=>(fF h),λy t f dx dy h X Y=>X.inv⟩
 |tup xs ih=>
  refine ⟨λy t f dx dy h X Y=>?_,λy t f dx dy h X Y=>X.inv⟩
  cases X with
  |tup X=>
  cases Y with
  |tup Y=>exact (ih.2 _ t f _ _ h X Y).iff .rfl
  |_=>first|exact .no (fne rfl) h|exact fF h
 |lst xs ih=>
  refine ⟨λy t f dx dy h X Y=>?_,λy t f dx dy h X Y=>X.inv⟩
  cases X with
  |lst X=>
  cases Y with
  |lst Y=>exact (ih.2 _ t f _ _ h X Y).iff .rfl
  |_=>first|exact .no (fne rfl) h|exact fF h
 |nil=>
  refine ⟨λy t f dx dy h X Y=>X.inv,λy t f dx dy h X Y=>?_⟩
  cases X
  cases Y with
  |nil=>exact .yes rfl h
  |cons=>exact .no (fne rfl) h
 |cons a b ih1 ih2=>
  refine ⟨λy t f dx dy h X Y=>X.inv,λy t f dx dy h X Y=>?_⟩
  cases X with
  |@cons _ _ dd dds X1 X2=>
  cases Y with
  |@cons h' t' d' ds' Y1 Y2=>
   have h:eqV bd a h' (eqV bd b t' t f) f=true:=h
   have d1:=ih1.1 _ _ _ _ _ h X1 Y1
   have e:(PyData.eqvAll (CD.pys (dd::dds)) (CD.pys (d'::ds'))=true)↔(PyData.eqv dd.py d'.py=true∧PyData.eqvAll (CD.pys dds) (CD.pys ds')=true):=Bool.and_eq_true_iff
   by_cases q:PyData.eqv dd.py d'.py=true
   · exact (ih2.2 _ t f _ _ (d1.1 q) X2 Y2).iff (by rw[e];exact ⟨λz=>⟨q,z⟩,λz=>z.2⟩)
   · exact .no (λz=>q (e.mp z).1) (d1.2 q)
  |nil=>exact .no (fne rfl) h
 |dcons a b t ih1 ih2 ih3=>exact ⟨λy t f dx dy h X Y=>X.inv,λy t f dx dy h X Y=>X.inv⟩
end
section
variable {ρ:Rho} {s:St} {k:K AV}
theorem asNum_int {x:AV} {i:Int} {sy:Nat->Nat->Bool} {ng:Nat->Bool} {r:Nat->Nat->Bool} {u e:Bool} (X:Conc ρ x (.int i)) (h:asNum x sy ng r u e=true):
  (∃a k:Nat,i=ρ.val a+k∧sy a k=true)∨(∃n:Nat,i= -(n:Int)-1∧ng n=true)∨(∃lo hi:Nat,(lo:Int)≤i∧i≤hi∧r lo hi=true)∨u=true:=by
 rcases asNum_dec X h with ⟨i',e,hx⟩|⟨h1,_,_⟩
 · cases e;exact hx
 · exact absurd rfl (h1 i)
theorem subNum {x y:AV} {i j:Int} (B:BOk ρ s.bd) (X:Conc ρ x (.int i)) (Y:Conc ρ y (.int j)) (h:oSub x y s k=true):∃v,k v s=true∧Conc ρ v (.int (i-j)):=by
 have any':k .any s=true->∃v,k v s=true∧Conc ρ v (.int (i-j)):=λe=>⟨.any,e,.any _⟩
 have hx:=asNum_int X h
 rcases hx with ⟨a,n,e1,h⟩|⟨n,e1,h⟩|⟨lo,hi,x1,x2,h⟩|h
 · have hy:=asNum_int Y h
   rcases hy with ⟨b,m,e2,h⟩|⟨m,e2,h⟩|⟨_,_,_,_,h⟩|h
   · rcases ite_true h with ⟨q,h⟩|⟨_,h⟩
     · have:=beq_true q
       exact subN_true (a:=n) (b:=m) (by rw[e1,e2,this];omega) h
     · rcases ite_true h with ⟨q,h⟩|⟨_,h⟩
       · rcases ite_true h with ⟨q2,h⟩|⟨_,h⟩
         · have:=ble_true q2
           exact ⟨_,h,.sym' (by show _=_+((n-m:Nat):Int);rw[e1,e2,beq_true q,ρ.zero];omega)⟩
         · exact any' h
       · rcases BL.get_true B h with ⟨lo,hi,y1,y2,h⟩|h
         · rcases ite_true h with ⟨q2,h⟩|⟨_,h⟩
           · have q2:m≤lo+n:=ble_true q2
             exact ⟨_,h,.rng' (by show ((lo+n-m:Nat):Int)≤_;omega) (by show _≤((hi+n-m:Nat):Int);omega)⟩
           · exact any' h
         · exact any' h
   · rcases ite_true h with ⟨q,h⟩|⟨_,h⟩
     · exact ⟨_,h,.nat' (by show _=((n+m+1:Nat):Int);rw[e1,e2,beq_true q,ρ.zero];omega)⟩
     · exact any' h
   · exact any' h
   · exact any' h
 · have hy:=asNum_int Y h
   rcases hy with ⟨b,m,e2,h⟩|⟨m,e2,h⟩|⟨_,_,_,_,h⟩|h
   · rcases ite_true h with ⟨q,h⟩|⟨_,h⟩
     · exact ⟨_,h,.neg' (by show _= -((n+m:Nat):Int)-1;rw[e1,e2,beq_true q,ρ.zero];omega)⟩
     · exact any' h
   · exact subN_true (a:=m) (b:=n) (by omega) h
   · exact any' h
   · exact any' h
 · have hy:=asNum_int Y h
   rcases hy with ⟨b,m,e2,h⟩|⟨m,e2,h⟩|⟨_,_,_,_,h⟩|h<;>exact any' h
 · have hy:=asNum_int Y h
   rcases hy with ⟨b,m,e2,h⟩|⟨m,e2,h⟩|⟨_,_,_,_,h⟩|h<;>exact any' h
theorem isNat_true {x:AV} {k:Nat->Bool} (h:isNat x k=true):∃n,x=.nat n∧k n=true:=by
 cases x with
 |nat n=>exact ⟨n,rfl,h⟩
 |_=>exact fF h
theorem modNum {x y:AV} {i:Int} {dy:CD} (X:Conc ρ x (.int i)) (Y:Conc ρ y dy) (h:oMod x y s k=true):∃j:Int,dy=.int j∧j≠0∧∃v,k v s=true∧Conc ρ v (.int (i.fmod j)):=by
 obtain ⟨m,rfl,h⟩:=isNat_true h
 cases Y
 cases m with
 |zero=>exact fF h
 |succ m'=>
  refine ⟨_,rfl,by omega,?_⟩
  have fm:i.fmod ((m'+1:Nat):Int)=i%((m'+1:Nat):Int):=Int.fmod_eq_emod_of_nonneg _ (by omega)
  have r0:=Int.emod_nonneg i (b:=((m'+1:Nat):Int)) (by omega)
  have r1:=Int.emod_lt_of_pos i (b:=((m'+1:Nat):Int)) (by omega)
  rw[fm]
  have full:k (.rng 0 m') s=true->∃v,k v s=true∧Conc ρ v (.int (i%((m'+1:Nat):Int))):=λe=>⟨_,e,.rng' (by omega) (by omega)⟩
  have h:asNum x (λa n=>ite (Nat.beq a 0) (k (.nat (Nat.mod n (m'+1))) s) (k (.rng 0 m') s)) (λn=>k (.nat (Nat.sub m' (Nat.mod n (m'+1)))) s)
   (λlo hi=>ite (Nat.ble hi m') (k (.rng lo hi) s) (k (.rng 0 m') s)) (k (.rng 0 m') s) false=true:=h
  have hx:=asNum_int X h
  rcases hx with ⟨a,n,e1,h⟩|⟨n,e1,h⟩|⟨lo,hi,x1,x2,h⟩|h
  · rcases ite_true h with ⟨q,h⟩|⟨_,h⟩
    · refine ⟨_,h,.nat' ?_⟩
      rw[e1,beq_true q,ρ.zero,Int.zero_add]
      show _=((n%(m'+1):Nat):Int)
      omega
    · exact full h
  · refine ⟨_,h,.nat' ?_⟩
    show _=((m'-n%(m'+1):Nat):Int)
    have hlt:n%(m'+1)<m'+1:=Nat.mod_lt _ (by omega)
    have key:(i+(((n/(m'+1)+1:Nat):Int))*((m'+1:Nat):Int))%((m'+1:Nat):Int)=i%((m'+1:Nat):Int):=Int.add_mul_emod_self_right ..
    rw[← key]
    have hd:(n:Int)=((m'+1:Nat):Int)*((n/(m'+1):Nat):Int)+((n%(m'+1):Nat):Int):=by
     have:=Nat.div_add_mod n (m'+1)
     exact_mod_cast this.symm
    have e3:i+(((n/(m'+1)+1:Nat):Int))*((m'+1:Nat):Int)=((m'-n%(m'+1):Nat):Int):=by
     generalize n/(m'+1)=q at hd
     generalize n%(m'+1)=r at hd hlt
     have e4:((q+1:Nat):Int)*((m'+1:Nat):Int)=((m'+1:Nat):Int)*(q:Int)+((m'+1:Nat):Int):=by
      rw[show ((q+1:Nat):Int)=(q:Int)+1 from rfl,Int.add_mul,Int.one_mul,Int.mul_comm]
     rw[e4,e1]
     generalize ((m'+1:Nat):Int)*(q:Int)=z at hd
     omega
    rw[e3]
    exact Int.emod_eq_of_lt (by omega) (by omega)
  · rcases ite_true h with ⟨q,h⟩|⟨_,h⟩
    · have:=ble_true q
      refine ⟨_,h,?_⟩
      rw[Int.emod_eq_of_lt (by omega) (by omega)]
      exact .rng' x1 x2
    · exact full h
  · exact full h
end
section
variable {ρ:Rho} {s:St} {k:K AV}
theorem asNum_isInt {x:AV} {d:CD} {sy:Nat->Nat->Bool} {ng:Nat->Bool} {r:Nat->Nat->Bool} {u:Bool} (X:Conc ρ x d) (h:asNum x sy ng r u false=true):∃i:Int,d=.int i:=by
 rcases asNum_dec X h with ⟨i,e,_⟩|⟨_,_,e⟩
 · exact ⟨i,e⟩
 · cases e
theorem oSub_ints {x y:AV} {dx dy:CD} (X:Conc ρ x dx) (Y:Conc ρ y dy) (h:oSub x y s k=true):(∃i:Int,dx=.int i)∧∃j:Int,dy=.int j:=by
 obtain ⟨i,rfl⟩:=asNum_isInt X h
 refine ⟨⟨i,rfl⟩,?_⟩
 rcases asNum_int X h with ⟨a,n,e1,h⟩|⟨n,e1,h⟩|⟨lo,hi,x1,x2,h⟩|h<;>exact asNum_isInt Y h
end
section
variable {c:Cf}
theorem soundB_sub:SoundB c .Sub oSub:=by
 intro f w s σ A Q E k x y dx dy u v h rel rm X Y rx ry post
 obtain ⟨⟨i,rfl⟩,⟨j,rfl⟩⟩:=oSub_ints X Y h
 obtain ⟨v',hk,C⟩:=subNum rel.bd X Y h
 cases rx
 cases ry
 exact sub_int (post.int hk rel C)
theorem soundB_mod:SoundB c .Mod oMod:=by
 intro f w s σ A Q E k x y dx dy u v h rel rm X Y rx ry post
 have hx:∃i:Int,dx=.int i:=by
  obtain ⟨m,rfl,h'⟩:=isNat_true h
  cases m with
  |zero=>exact fF h'
  |succ m=>
   have h':asNum x (λa n=>ite (Nat.beq a 0) (k (.nat (Nat.mod n (m+1))) s) (k (.rng 0 m) s)) (λn=>k (.nat (Nat.sub m (Nat.mod n (m+1)))) s)
    (λlo hi=>ite (Nat.ble hi m) (k (.rng lo hi) s) (k (.rng 0 m) s)) (k (.rng 0 m) s) false=true:=h'
   exact asNum_isInt X h'
 obtain ⟨i,rfl⟩:=hx
 obtain ⟨j,rfl,hj,v',hk,C⟩:=modNum X Y h
 cases rx
 cases ry
 exact mod_int' hj (post.int hk rel C)
end
section
variable {ρ:Rho} {s:St} {k:K AV}
theorem isSmall_true {x:AV} {t:Nat->Bool} {f:Bool} (h:isSmall x t f=true):(∃n,x=.nat n∧n≤4294967296∧t n=true)∨f=true:=by
 cases x with
 |nat n=>
  rcases ite_true h with ⟨q,h⟩|⟨_,h⟩
  · exact .inl ⟨n,rfl,ble_true q,h⟩
  · exact .inr h
 |_=>exact .inr h
theorem nat_bits {n:Nat} (h:n≤4294967296):Builtin.Int.intBits ((n:Nat):Int)≤64:=by
 refine intBits_le_iff.mpr ?_
 have:((n:Nat):Int).natAbs=n:=rfl
 rw[this]
 exact Nat.lt_of_le_of_lt h (by decide)
end
section
variable {c:Cf}
theorem soundB_mul:SoundB c .Mult oMul:=by
 intro f w s σ A Q E k x y dx dy u v h rel rm X Y rx ry post
 rcases isSmall_true h with ⟨n,rfl,hn,h⟩|h
 · cases X
   cases rx
   cases Y with
   |bool b=>
    cases ry
    refine IntBool.mul_int_bool (post.int (v:=.nat (Nat.mul n (Bool.rec 0 1 b))) ?_ rel ?_)
    · cases b<;>exact h
    · cases b
      · exact .nat' (by show _=((n*0:Nat):Int);simp)
      · exact .nat' (by show _=((n*1:Nat):Int);simp)
   |nat m=>
    cases ry
    refine mul_int (post.int (v:=.nat (Nat.mul n m)) h rel (.nat' (by show _=((n*m:Nat):Int);simp))) (IntMulOk.of_left (nat_bits hn))
   |neg m=>cases ry;exact mul_int (post.int (v:=.any) h rel (.any _)) (IntMulOk.of_left (nat_bits hn))
   |sym a m=>
    cases ry
    have h:ite (Nat.beq a 0) (k (.nat (Nat.mul n m)) s) (k .any s)=true:=h
    rcases ite_true h with ⟨q,h⟩|⟨_,h⟩
    · refine mul_int (post.int (v:=.nat (Nat.mul n m)) h rel (.nat' ?_)) (IntMulOk.of_left (nat_bits hn))
      show _=((n*m:Nat):Int)
      rw[beq_true q,c.ρ.zero];simp
    · exact mul_int (post.int (v:=.any) h rel (.any _)) (IntMulOk.of_left (nat_bits hn))
   |rng lo hi=>cases ry;exact mul_int (post.int (v:=.any) h rel (.any _)) (IntMulOk.of_left (nat_bits hn))
   |any=>cases ry;exact mul_int (post.int (v:=.any) h rel (.any _)) (IntMulOk.of_left (nat_bits hn))
   |_=>exact fF h
 · rcases isSmall_true h with ⟨m,rfl,hm,h⟩|h
   · obtain ⟨i,rfl⟩:=asNum_isInt X h
     cases Y
     cases rx
     cases ry
     have hk:k .any s=true:=by
      rcases asNum_int X h with ⟨_,_,_,h⟩|⟨_,_,h⟩|⟨_,_,_,_,h⟩|h<;>exact h
     refine mul_int (post.int (v:=.any) hk rel (.any _)) ?_
     have hb:=nat_bits hm
     unfold IntMulOk
     have h':¬(Builtin.Int.intBits ((m:Nat):Int)>shortFactorBits):=Nat.not_lt.mpr hb
     rw[decide_eq_false h'];simp
   · cases h
theorem soundB_div:SoundB c .FloorDiv oDiv:=by
 intro f w s σ A Q E k x y dx dy u v h rel rm X Y rx ry post
 obtain ⟨n,rfl,h1⟩:=isNat_true h
 try clear h
 obtain ⟨m,rfl,h⟩:=isNat_true h1
 try clear h1
 rcases ite_true h with ⟨q,h⟩|⟨_,h⟩
 · cases X
   cases Y
   cases rx
   cases ry
   cases m with
   |zero=>exact fF h
   |succ m=>
    have hm:=ble_true q
    refine floordiv_int (by omega) (post.int (v:=.nat (Nat.div n (m+1))) h rel (.nat' ?_)) (.inl (PyProof.noPylong_small (by show m+1<1073741824;omega)))
    show _=((n/(m+1):Nat):Int)
    rw[Int.fdiv_eq_ediv_of_nonneg _ (by omega)]
    simp
 · cases h
theorem soundB_shl:SoundB c .LShift oShl:=by
 intro f w s σ A Q E k x y dx dy u v h rel rm X Y rx ry post
 obtain ⟨n,rfl,h1⟩:=isNat_true h
 try clear h
 obtain ⟨m,rfl,h⟩:=isNat_true h1
 try clear h1
 rcases ite_true h with ⟨q,h⟩|⟨_,h⟩
 · rw[Bool.and_eq_true] at q
   have q1:=ble_true q.1
   have q2:=ble_true q.2
   cases X
   cases Y
   cases rx
   cases ry
   refine lshift_int_small (by omega) (by omega) (Nat.lt_of_le_of_lt (show ((n:Nat):Int).natAbs≤4294967296 from q2) (by decide)) (post.int (v:=.nat (Nat.shiftLeft n m)) h rel (.nat' ?_))
   show _=((n <<< m:Nat):Int)
   rw[Nat.shiftLeft_eq]
   simp
 · cases h
theorem soundB_pow:SoundB c .Pow oPow:=by
 intro f w s σ A Q E k x y dx dy u v h rel rm X Y rx ry post
 obtain ⟨n,rfl,h1⟩:=isNat_true h
 try clear h
 obtain ⟨m,rfl,h⟩:=isNat_true h1
 try clear h1
 rcases ite_true h with ⟨q,h⟩|⟨_,h⟩
 · rw[Bool.and_eq_true] at q
   have q1:=ble_true q.1
   have q2:=ble_true q.2
   cases X
   cases Y
   cases rx
   cases ry
   refine pow_int_small (by omega) (by omega) (Nat.lt_of_le_of_lt (show ((n:Nat):Int).natAbs≤2 from q2) (by decide)) (post.int (v:=.nat (Nat.pow n m)) h rel (.nat' ?_))
   show _=((n^m:Nat):Int)
   simp
 · cases h
theorem soundB_or:SoundB c .BitOr oOr:=by
 intro f w s σ A Q E k x y dx dy u v h rel rm X Y rx ry post
 obtain ⟨n,rfl,h1⟩:=isNat_true h
 try clear h
 obtain ⟨m,rfl,h⟩:=isNat_true h1
 try clear h1
 cases X
 cases Y
 cases rx
 cases ry
 refine or_int (post.int (v:=.nat (Nat.lor n m)) h rel (.nat' ?_))
 show Spec.bitOr (n:Int) (m:Int)=((n ||| m:Nat):Int)
 unfold Spec.bitOr Spec.bitAnd
 have e1:decide (0≤Spec.bitNot (n:Int))=false:=decide_eq_false (by unfold Spec.bitNot;omega)
 have e2:decide (0≤Spec.bitNot (m:Int))=false:=decide_eq_false (by unfold Spec.bitNot;omega)
 rw[e1,e2]
 have e3:∀z:Int,Spec.bitNot (Spec.bitNot z)=z:=λz=>by unfold Spec.bitNot;omega
 dsimp only
 rw[e3,e3,e3]
 rfl
theorem soundB_and:SoundB c .BitAnd oAnd:=by
 intro f w s σ A Q E k x y dx dy u v h rel rm X Y rx ry post
 obtain ⟨m,rfl,h1⟩:=isNat_true h
 try clear h
 obtain ⟨i,rfl⟩:=asNum_isInt X h1
 cases Y
 cases rx
 cases ry
 refine and_int ?_
 have b255:m=255->0≤Builtin.bitAnd i (m:Int)∧Builtin.bitAnd i (m:Int)≤255:=λe=>by
  have:=bitAnd_range i (y:=(m:Int)) (by omega)
  omega
 have low:m=255->0≤i->i≤255->Builtin.bitAnd i (m:Int)=i:=λe h0 h1=>by
  rw[e]
  show Builtin.bitAnd i 255=i
  rw[bitAnd_m8];omega
 have full:m=255->k (.rng 0 255) s=true->Q (.int (Builtin.bitAnd i (m:Int)) σ.toks) {σ with toks:=σ.toks+1}:=λe hk=>
  post.int hk rel (.rng' (b255 e).1 (b255 e).2)
 rcases asNum_int X h1 with ⟨a,n,e1,h⟩|⟨_,_,h⟩|⟨lo,hi,x1,x2,h⟩|h
 · rcases ite_true h with ⟨q,h⟩|⟨_,h⟩
   · refine post.int (v:=.nat (Nat.land n m)) h rel (.nat' ?_)
     rw[e1,beq_true q,c.ρ.zero,Int.zero_add]
     show Spec.bitAnd (n:Int) (m:Int)=((n &&& m:Nat):Int)
     unfold Spec.bitAnd
     rw[decide_eq_true (show (0:Int)≤(n:Int) by omega),decide_eq_true (show (0:Int)≤(m:Int) by omega)]
     rfl
   · rcases ite_true h with ⟨q,h⟩|⟨_,h⟩
     · have q:=beq_true q
       rcases BL.get_true rel.bd h with ⟨lo,hi,y1,y2,h⟩|h
       · rw[c.ρ.zero] at y1 y2
         rcases ite_true h with ⟨q2,h⟩|⟨_,h⟩
         · have q2:hi+n≤255:=ble_true q2
           refine post.int (v:=.sym a n) h rel ?_
           rw[low q (by omega) (by omega)]
           exact .sym' e1
         · exact full q h
       · exact full q h
     · cases h
 · cases h
 · rcases ite_true h with ⟨q,h⟩|⟨_,h⟩
   · have q:=beq_true q
     rcases ite_true h with ⟨q2,h⟩|⟨_,h⟩
     · have q2:=ble_true q2
       refine post.int (v:=x) h rel ?_
       rw[low q (by omega) (by omega)]
       exact X
     · exact full q h
   · cases h
 · rcases ite_true h with ⟨q,h⟩|⟨_,h⟩
   · exact full (beq_true q) h
   · cases h
end
section
variable {c:Cf}
theorem shr_nat (n m:Nat):((n:Int)).fdiv (2^((m:Nat):Int).toNat)=((n >>> m:Nat):Int):=by
 rw[Int.fdiv_eq_ediv_of_nonneg _ (by exact Int.le_of_lt (Int.pow_pos (by decide))),Nat.shiftRight_eq_div_pow]
 simp
theorem shr_zero {i:Int} {h m:Nat} (h0:0≤i) (h1:i≤(h:Int)) (q:h >>> m=0):i.fdiv (2^((m:Nat):Int).toNat)=0:=by
 obtain ⟨n,rfl⟩:=Int.eq_ofNat_of_zero_le h0
 rw[shr_nat]
 have:n≤h:=by omega
 rw[Nat.shiftRight_eq_div_pow] at q ⊢
 have hlt:h<2^m:=by
  rcases Nat.lt_or_ge h (2^m) with z|z
  · exact z
  · have:=Nat.div_pos z (Nat.two_pow_pos m)
    omega
 rw[Nat.div_eq_of_lt (by omega)]
 rfl
theorem soundB_shr:SoundB c .RShift oShr:=by
 intro f w s σ A Q E k x y dx dy u v h rel rm X Y rx ry post
 obtain ⟨m,rfl,h1⟩:=isNat_true h
 try clear h
 obtain ⟨i,rfl⟩:=asNum_isInt X h1
 cases Y
 cases rx
 cases ry
 refine rshift_int (by omega) ?_
 have m0:m=0->i.fdiv (2^((m:Nat):Int).toNat)=i:=λe=>by rw[e];simp
 rcases asNum_int X h1 with ⟨a,n,e1,h⟩|⟨_,_,h⟩|⟨lo,hi,x1,x2,h⟩|h
 · rcases ite_true h with ⟨q,h⟩|⟨_,h⟩
   · refine post.int (v:=.nat (Nat.shiftRight n m)) h rel (.nat' ?_)
     rw[e1,beq_true q,c.ρ.zero,Int.zero_add]
     exact shr_nat n m
   · rcases ite_true h with ⟨q,h⟩|⟨_,h⟩
     · refine post.int (v:=.sym a n) h rel (.sym' ?_)
       rw[m0 (beq_true q)];exact e1
     · rcases BL.get_true rel.bd h with ⟨lo,hi,y1,y2,h⟩|h
       · rw[c.ρ.zero] at y1 y2
         rcases ite_true h with ⟨q2,h⟩|⟨_,h⟩
         · have q2:(hi+n) >>> m=0:=beq_true q2
           refine post.int (v:=.nat 0) h rel (.nat' ?_)
           exact shr_zero (h:=hi+n) (by omega) (by omega) q2
         · cases h
       · cases h
 · cases h
 · rcases ite_true h with ⟨q,h⟩|⟨_,h⟩
   · refine post.int (v:=x) h rel ?_
     rw[m0 (beq_true q)];exact X
   · rcases ite_true h with ⟨q,h⟩|⟨_,h⟩
     · have q:hi >>> m=0:=beq_true q
       refine post.int (v:=.nat 0) h rel (.nat' ?_)
       exact shr_zero (h:=hi) (by omega) (by omega) q
     · exact post.int (v:=.any) h rel (.any _)
 · exact post.int (v:=.any) h rel (.any _)
end
noncomputable def constA:Const->Option AV
 | .none=>some .none
 | .bool b=>some (.bool b)
 | .int (.ofNat n)=>some (.nat n)
 | .int (.negSucc n)=>some (.neg n)
 | .str s=>if okS s=true then some (.str (sc s)) else none
 | .bytes []=>some (.byt .nil)
 |_=>none
section
variable {c:Cf} {lvl:Nat} {x:Cx}
theorem sound_cst {q:Const} {n:Nat} {pos:Pos} {v:AV} (h:constA q=some v):SoundE c lvl x (.Constant q n pos) (cst v):=by
 intro f w s σ A Q E k fo hk rel rm post
 have hk:k v s=true:=hk
 cases q with
 |none=>cases h;exact wpAny_Constant_none (post.now hk rel .none .none)
 |bool b=>cases h;exact wpAny_Constant_bool (post.now hk rel (.bool b) (.bool b))
 |int i=>
  cases i with
  |ofNat n=>cases h;exact wpAny_Constant_int (post.int hk rel (.nat n))
  |negSucc n=>cases h;exact wpAny_Constant_int (post.int hk rel (.neg n))
 |str t=>
  have h:(if okS t=true then some (AV.str (sc t)) else none)=some v:=h
  by_cases o:okS t=true
  · rw[if_pos o] at h
    cases h
    exact wpAny_Constant_str (post _ s w _ _ _ hk rel.toks (.refl _ _) (.str t o) (.str t _))
  · rw[if_neg o] at h;cases h
 |bytes b=>
  cases b with
  |nil=>
   cases h
   show wpAny _ A (mkTextBytes (#[]:Array UInt8)) Q E σ
   exact λΓ p hΓ=>post _ s w {σ with toks:=σ.toks+1} (.bytes (#[]:Array UInt8).toList) _ hk rel.toks (.refl _ _) (.byt .nil) (.bytes #[] _)
  |cons=>cases h
 |_=>cases h
theorem sound_var {n:Str} {pos:Pos} (hx:x.comp=none) (hs:okS n=true) (hd:(n==("__debug__":Str))=false):SoundE c lvl x (.Name n pos) (var (sc n)):=by
 intro f w s σ A Q E k fo hk rel rm post
 have fc:f.comp=none:=by have:=fo.comp;rw[hx] at this;exact this
 have fcur:f.cur=f.env:=by unfold Fm.cur;rw[fc]
 obtain ⟨v,hv,hk⟩:=VL.get_true (show VL.get (sc n) s.vars (λv=>k v s)=true from hk)
 rw[fcur]
 exact wpAny_Name (load_name rel fc (by rw[fo.scope];exact fo.kind) hs hv λd rv C r=>post.now hk rel C r) hd
theorem lookup_relabel_free {env:Env} (hk:env.scope.kind=.function):∀{names:List (Str×NameKind)} {n:Str},names.lookup n=some .free->env.kindOf n=some .cell->
  (names.map λ(n,k)=>if (k==NameKind.free&&env.scope.kind==.function&&env.kindOf n==some .cell) then (n,NameKind.cell) else (n,k)).lookup n=some .cell
 |[],_,h,_=>by simp at h
 |(m,k)::r,n,h,he=>by
  show List.lookup n ((if (k==NameKind.free&&env.scope.kind==.function&&env.kindOf m==some .cell)=true then (m,NameKind.cell) else (m,k))::_)=_
  cases q:n==m with
  |true=>
   simp only[List.lookup_cons,q] at h
   cases h
   have:=eq_of_beq q
   subst this
   rw[if_pos (by rw[hk,he];rfl)]
   simp only[List.lookup_cons,q]
  |false=>
   simp only[List.lookup_cons,q] at h
   have ih:=lookup_relabel_free hk (names:=r) h he
   by_cases hc:(k==NameKind.free&&env.scope.kind==.function&&env.kindOf m==some .cell)=true
   · rw[if_pos hc];simp only[List.lookup_cons,q];exact ih
   · rw[if_neg hc];simp only[List.lookup_cons,q];exact ih
theorem sound_varC {n:Str} {pos:Pos} {sc':Scope} (hx:x.comp=some sc') (hf:sc'.names.lookup n=some .free) (hcell:x.scope.names.lookup n=some .cell) (hs:okS n=true) (hd:(n==("__debug__":Str))=false):
  SoundE c lvl x (.Name n pos) (var (sc n)):=by
 intro f w s σ A Q E k fo hk rel rm post
 have fc:=fo.comp
 rw[hx] at fc
 obtain ⟨cl,a,fc,kd,_,hl⟩:=fc
 have fcur:f.cur=compEnvC sc' cl a f.env:=by unfold Fm.cur;rw[fc]
 obtain ⟨v,hv,hk'⟩:=VL.get_true (show VL.get (sc n) s.vars (λv=>k v s)=true from hk)
 obtain ⟨m,d,rv,h1,h2,C,r,H⟩:=rel.vars _ _ hv
 obtain rfl:=sc_inj h2 hs h1
 have ek:f.env.kindOf m=some .cell:=by unfold Env.kindOf;rw[fo.scope];exact hcell
 have fk:f.env.scope.kind=.function:=by rw[fo.scope];exact fo.kind
 rw[fcur]
 rcases H with ⟨kk,_⟩|⟨kk,b,hb,hc⟩
 · rw[ek] at kk;cases kk
 · exact wpAny_Name (wpAny_loadName_cell (env:=compEnvC sc' cl a f.env) (by simp[compEnvC,relabel,kd]) (lookup_relabel_free fk hf ek) (by show cl.lookup m=some b;rw[hl m hf];exact hb) hc (post.now hk' rel C r)) hd
theorem sound_cvar {n:Str} {pos:Pos} {sc':Scope} (hx:x.comp=some sc') (hs:okS n=true) (hd:(n==("__debug__":Str))=false):
  SoundE c lvl x (.Name n pos) (cvar (sc n)):=by
 intro f w s σ A Q E k fo hk rel rm post
 have fc:=fo.comp
 rw[hx] at fc
 obtain ⟨cl,a,fc,kd,_,hl⟩:=fc
 have fcur:f.cur=compEnvC sc' cl a f.env:=by unfold Fm.cur;rw[fc]
 obtain ⟨v,hv,hk'⟩:=VL.get_true (show VL.get (sc n) s.cvars (λv=>k v s)=true from hk)
 obtain ⟨m,d,rv,h1,h2,C,r,H⟩:=rel.cvars _ _ hv
 obtain rfl:=sc_inj h2 hs h1
 obtain ⟨s',cl',a',e,kk,m₀,hm,q⟩:=H
 rw[fc] at e
 cases e
 rw[fcur]
 exact wpAny_Name (wpAny_loadName_local (env:=compEnvC sc' cl a f.env) (by simp[compEnvC,relabel,kd]) kk hm q (post.now hk' rel C r)) hd
end
section
variable (c:Cf)
def SoundC (op:CmpOp) (g:Cm):Prop:=
 ∀f w s σ A (Q:Value->Shared->Prop) E x y dx dy u v t e,g x y s t e=true->Rel c f w s σ->Room A 0->Conc c.ρ x dx->Conc c.ρ y dy->Rd c.wo.params w σ.heap dx u->Rd c.wo.params w σ.heap dy v->
  (t=true->∀tk,Q (.bool true) {σ with toks:=tk})->(e=true->∀tk,Q (.bool false) {σ with toks:=tk})->wpAny (model c.prog c.wo) A (compareOp op u v) Q E σ
def SoundL (op:BoolOp) (lvl:Nat) (x:Cx) (es:List Expr) (T:T):Prop:=
 ∀f w s σ A (Q:Bool->Shared->Prop) E t u,FrOK x f->T s t u=true->Rel c f w s σ->Room A lvl->PostU c f w σ.heap t (Q true)->PostU c f w σ.heap u (Q false)->wpAny (model c.prog c.wo) A (allTrue op es f.cur) Q E σ
end
section
variable {c:Cf} {lvl:Nat} {x:Cx}
theorem PostU.now {f:Fm} {w:Wd} {s:St} {σ:Shared} {k:St->Bool} {Q:Shared->Prop} (P:PostU c f w σ.heap k Q) (e:k s=true) (R:Rel c f w s σ):Q σ:=P s w σ e R (.refl _ _)
theorem PostU.tk {f:Fm} {w:Wd} {s:St} {σ:Shared} {k:St->Bool} {Q:Shared->Prop} (P:PostU c f w σ.heap k Q) (e:k s=true) (R:Rel c f w s σ) (tk:Nat):Q {σ with toks:=tk}:=P s w _ e R.toks (.refl _ _)
theorem sound_noT {e:Expr} {T:T} {pos:Pos} (H:SoundT c lvl x e T):SoundT c lvl x (.UnaryOp .Not e pos) (noT T):=by
 intro f w s σ A Q E t u fo h rel rm pt pu
 exact isTrue_not (H f w s σ A (λb s'=>Q (!b) s') E u t fo h rel rm pu pt)
theorem sound_cmp {op:CmpOp} {g:Cm} {l r:Expr} {a b:C} {pos:Pos} (G:SoundC c op g) (L:SoundE c lvl x l a) (R:SoundE c lvl x r b) (hm:behindInMarks op r=false):SoundT c lvl x (.Compare l [op] [r] pos) (cmp g a b):=by
 intro f w s σ A Q E t u fo h rel rm pt pu
 refine wpAny_isTrue_Compare1 (L f w s σ A _ E _ fo h rel rm ?_) hm
 intro v s1 w1 σ1 d1 rv1 e1 rel1 X1 C1 r1
 refine R f w1 s1 σ1 A _ E _ fo e1 rel1 rm ?_
 intro v2 s2 w2 σ2 d2 rv2 e2 rel2 X2 C2 r2
 refine G f w2 s2 σ2 A _ E v v2 d1 d2 rv1 rv2 _ _ e2 rel2 (rm.down (Nat.zero_le _)) C1 C2 (r1.ext X2) r2 ?_ ?_
 · intro et tk
   exact wpAny_truthy_bool ((pt.ext (X1.trans X2)).tk et rel2 tk)
 · intro et tk
   exact wpAny_truthy_bool ((pu.ext (X1.trans X2)).tk et rel2 tk)
theorem soundL_one {op:BoolOp} {e:Expr} {T:T} (H:SoundT c lvl x e T):SoundL c op lvl x [e] T:=by
 intro f w s σ A Q E t u fo h rel rm pt pu
 cases op with
 |And=>
  refine wpAny_allTrue_And_cons (H f w s σ A _ E t u fo h rel rm ?_ ?_)
  · intro s1 w1 σ1 e1 rel1 X1
    simp only[if_true]
    exact wpAny_allTrue_And_nil (pt s1 w1 σ1 e1 rel1 X1)
  · intro s1 w1 σ1 e1 rel1 X1
    simp only[Bool.false_eq_true,if_false]
    exact pu s1 w1 σ1 e1 rel1 X1
 |Or=>
  refine wpAny_allTrue_Or_cons (H f w s σ A _ E t u fo h rel rm ?_ ?_)
  · intro s1 w1 σ1 e1 rel1 X1
    simp only[if_true]
    exact pt s1 w1 σ1 e1 rel1 X1
  · intro s1 w1 σ1 e1 rel1 X1
    simp only[Bool.false_eq_true,if_false]
    exact wpAny_allTrue_Or_nil (pu s1 w1 σ1 e1 rel1 X1)
theorem soundL_and {e:Expr} {es:List Expr} {a b:T} (H:SoundT c lvl x e a) (L:SoundL c .And lvl x es b):SoundL c .And lvl x (e::es) (anT a b):=by
 intro f w s σ A Q E t u fo h rel rm pt pu
 refine wpAny_allTrue_And_cons (H f w s σ A _ E _ _ fo h rel rm ?_ ?_)
 · intro s1 w1 σ1 e1 rel1 X1
   simp only[if_true]
   exact L f w1 s1 σ1 A Q E t u fo e1 rel1 rm (pt.ext X1) (pu.ext X1)
 · intro s1 w1 σ1 e1 rel1 X1
   simp only[Bool.false_eq_true,if_false]
   exact pu s1 w1 σ1 e1 rel1 X1
theorem soundL_or {e:Expr} {es:List Expr} {a b:T} (H:SoundT c lvl x e a) (L:SoundL c .Or lvl x es b):SoundL c .Or lvl x (e::es) (orT a b):=by
 intro f w s σ A Q E t u fo h rel rm pt pu
 refine wpAny_allTrue_Or_cons (H f w s σ A _ E _ _ fo h rel rm ?_ ?_)
 · intro s1 w1 σ1 e1 rel1 X1
   simp only[if_true]
   exact pt s1 w1 σ1 e1 rel1 X1
 · intro s1 w1 σ1 e1 rel1 X1
   simp only[Bool.false_eq_true,if_false]
   exact L f w1 s1 σ1 A Q E t u fo e1 rel1 rm (pt.ext X1) (pu.ext X1)
theorem sound_bool {op:BoolOp} {es:List Expr} {T:T} {pos:Pos} (H:SoundL c op lvl x es T):SoundT c lvl x (.BoolOp op es pos) T:=by
 intro f w s σ A Q E t u fo h rel rm pt pu
 exact wpAny_isTrue_BoolOp (H f w s σ A Q E t u fo h rel rm pt pu)
theorem sound_iteC {t b o:Expr} {T:T} {B O:C} {pos:Pos} (H:SoundT c lvl x t T) (L:SoundE c lvl x b B) (R:SoundE c lvl x o O):SoundE c lvl x (.IfExp t b o pos) (iteC T B O):=by
 intro f w s σ A Q E k fo h rel rm post
 show wpAny _ A (do if ←isTrue t f.cur (eval t f.cur) then eval b f.cur else eval o f.cur) Q E σ
 refine wpAny_bind (H f w s σ A _ E _ _ fo h rel rm ?_ ?_)
 · intro s1 w1 σ1 e1 rel1 X1
   exact L f w1 s1 σ1 A Q E k fo e1 rel1 rm (post.ext X1)
 · intro s1 w1 σ1 e1 rel1 X1
   exact R f w1 s1 σ1 A Q E k fo e1 rel1 rm (post.ext X1)
theorem dec_bool {P:Prop} [Decidable P] {t e:Bool} {Q:Value->Shared->Prop} {σ:Shared} (d:Dec P t e) (ht:t=true->∀tk,Q (.bool true) {σ with toks:=tk}) (he:e=true->∀tk,Q (.bool false) {σ with toks:=tk}):
  Q (.bool (decide P)) σ:=by
 by_cases p:P
 · rw[decide_eq_true p];exact ht (d.1 p) σ.toks
 · rw[decide_eq_false p];exact he (d.2 p) σ.toks
theorem leV_leG {bd:BL} {x y:AV} {t f:Bool}:leV bd x y t f=leG bd x y t f:=by
 cases x<;>first|rfl|(cases y<;>rfl)
theorem leV_ints {ρ:Rho} {bd:BL} {x y:AV} {dx dy:CD} {t e:Bool} (X:Conc ρ x dx) (Y:Conc ρ y dy) (h:leV bd x y t e=true):(∃i:Int,dx=.int i)∧∃j:Int,dy=.int j:=by
 rw[leV_leG] at h
 obtain ⟨i,rfl⟩:=asNum_isInt X h
 refine ⟨⟨i,rfl⟩,?_⟩
 rcases asNum_int X h with ⟨a,n,e1,h⟩|⟨n,e1,h⟩|⟨lo,hi,x1,x2,h⟩|h<;>exact asNum_isInt Y h
theorem soundC_le:SoundC c .LtE cLe:=by
 intro f w s σ A Q E x y dx dy u v t e h rel rm X Y rx ry ht he
 obtain ⟨⟨i,rfl⟩,⟨j,rfl⟩⟩:=leV_ints X Y h
 cases rx
 cases ry
 exact le_int (dec_bool (leV_dec rel.bd X Y h) ht he)
theorem soundC_ge:SoundC c .GtE cGe:=by
 intro f w s σ A Q E x y dx dy u v t e h rel rm X Y rx ry ht he
 obtain ⟨⟨i,rfl⟩,⟨j,rfl⟩⟩:=leV_ints Y X h
 cases rx
 cases ry
 exact ge_int (dec_bool (leV_dec rel.bd Y X h) ht he)
end
section
variable (c:Cf)
def SoundS (lvl:Nat) (x:Cx) (ss:List Stmt) (S:S):Prop:=
 ∀f w s σ A (Q:Flow->Shared->Prop) E n r t,FrOK x f->S s n r t=true->Rel c f w s σ->Room A lvl->PostU c f w σ.heap n (Q .next)->Post c f w σ.heap r (λv=>Q (.ret v))->PostU c f w σ.heap t (Q .cont)->
  wpAny (model c.prog c.wo) A (execs ss f.cur) Q E σ
def SoundX (lvl:Nat) (x:Cx) (st:Stmt) (S:S):Prop:=
 ∀f w s σ A (Q:Flow->Shared->Prop) E n r t,FrOK x f->S s n r t=true->Rel c f w s σ->Room A lvl->PostU c f w σ.heap n (Q .next)->Post c f w σ.heap r (λv=>Q (.ret v))->PostU c f w σ.heap t (Q .cont)->
  wpAny (model c.prog c.wo) A (exec st f.cur) Q E σ
end
section
variable {c:Cf} {lvl:Nat} {x:Cx}
theorem sound_nil:SoundS c lvl x [] skip:=by
 intro f w s σ A Q E n r t fo h rel rm pn pr pt
 exact wpAny_pure (pn.now h rel)
theorem sound_one {st:Stmt} {a:S} (H:SoundX c lvl x st a):SoundS c lvl x [st] a:=by
 intro f w s σ A Q E n r t fo h rel rm pn pr pt
 show wpAny _ A (do match ←exec st f.cur with| .next=>execs [] f.cur|f=>pure f) Q E σ
 refine wpAny_bind (H f w s σ A _ E n r t fo h rel rm ?_ ?_ ?_)
 · exact λs1 w1 σ1 e1 rel1 X1=>wpAny_pure (pn s1 w1 σ1 e1 rel1 X1)
 · exact λv s1 w1 σ1 d rv e1 rel1 X1 C1 r1=>wpAny_pure (pr v s1 w1 σ1 d rv e1 rel1 X1 C1 r1)
 · exact λs1 w1 σ1 e1 rel1 X1=>wpAny_pure (pt s1 w1 σ1 e1 rel1 X1)
theorem sound_sq {st:Stmt} {rest:List Stmt} {a b:S} (H:SoundX c lvl x st a) (L:SoundS c lvl x rest b):SoundS c lvl x (st::rest) (sq a b):=by
 intro f w s σ A Q E n r t fo h rel rm pn pr pt
 show wpAny _ A (do match ←exec st f.cur with| .next=>execs rest f.cur|f=>pure f) Q E σ
 refine wpAny_bind (H f w s σ A _ E _ r t fo h rel rm ?_ ?_ ?_)
 · exact λs1 w1 σ1 e1 rel1 X1=>L f w1 s1 σ1 A Q E n r t fo e1 rel1 rm (pn.ext X1) (pr.ext X1) (pt.ext X1)
 · exact λv s1 w1 σ1 d rv e1 rel1 X1 C1 r1=>wpAny_pure (pr v s1 w1 σ1 d rv e1 rel1 X1 C1 r1)
 · exact λs1 w1 σ1 e1 rel1 X1=>wpAny_pure (pt s1 w1 σ1 e1 rel1 X1)
theorem sound_ret {e:Expr} {a:C} {pos:Pos} (H:SoundE c lvl x e a):SoundX c lvl x (.Return (some e) pos) (retS a):=by
 intro f w s σ A Q E n r t fo h rel rm pn pr pt
 show wpAny _ A (do standAt pos;return .ret (← eval e f.cur)) Q E σ
 refine wpAny_bind (wpAny_standAt (wpAny_bind (H f w s σ A _ E r fo h rel rm ?_)))
 exact λv s1 w1 σ1 d rv e1 rel1 X1 C1 r1=>wpAny_pure (pr v s1 w1 σ1 d rv e1 rel1 X1 C1 r1)
theorem sound_cont {pos:Pos}:SoundX c lvl x (.Continue pos) cntS:=by
 intro f w s σ A Q E n r t fo h rel rm pn pr pt
 show wpAny _ A (do standAt pos;pure .cont) Q E σ
 exact wpAny_bind (wpAny_standAt (wpAny_pure (pt.now h rel)))
theorem sound_pass {pos:Pos}:SoundX c lvl x (.Pass pos) skip:=by
 intro f w s σ A Q E n r t fo h rel rm pn pr pt
 show wpAny _ A (do standAt pos;pure .next) Q E σ
 exact wpAny_bind (wpAny_standAt (wpAny_pure (pn.now h rel)))
theorem sound_if {t:Expr} {b o:List Stmt} {T:T} {B O:S} {pos:Pos} (H:SoundT c lvl x t T) (L:SoundS c lvl x b B) (R:SoundS c lvl x o O):SoundX c lvl x (.If t b o pos) (ifS T B O):=by
 intro f w s σ A Q E n r k fo h rel rm pn pr pk
 show wpAny _ A (do standAt pos;if ←isTrue t f.cur (eval t f.cur) then execs b f.cur else execs o f.cur) Q E σ
 refine wpAny_bind (wpAny_standAt (wpAny_bind (H f w s σ A _ E _ _ fo h rel rm ?_ ?_)))
 · exact λs1 w1 σ1 e1 rel1 X1=>L f w1 s1 σ1 A Q E n r k fo e1 rel1 rm (pn.ext X1) (pr.ext X1) (pk.ext X1)
 · exact λs1 w1 σ1 e1 rel1 X1=>R f w1 s1 σ1 A Q E n r k fo e1 rel1 rm (pn.ext X1) (pr.ext X1) (pk.ext X1)
theorem sound_ex {e:Expr} {a:C} {pos:Pos} (H:SoundE c lvl x e a) (hs:∀env,swapsWith e none pos.line env=pure false):SoundX c lvl x (.Expr e pos) (exS a):=by
 intro f w s σ A Q E n r t fo h rel rm pn pr pt
 have hi:interactive f.cur=false:=by
  have hk:f.cur.scope.kind=.function:=by
   unfold Fm.cur
   have:=fo.comp
   cases hx:x.comp with
   |none=>rw[hx] at this;rw[this];show f.env.scope.kind=_;rw[fo.scope];exact fo.kind
   |some s'=>
    rw[hx] at this
    obtain ⟨cl,a,e,kd,_⟩:=this
    rw[e];exact kd
  unfold interactive
  rw[hk];rfl
 refine wpAny_Expr_any (H f w s σ A _ E _ fo h rel rm ?_) hi (hs _)
 exact λv s1 w1 σ1 d rv e1 rel1 X1 C1 r1=>pn s1 w1 σ1 e1 rel1 X1
end
section
variable {c:Cf} {lvl:Nat} {x:Cx}
noncomputable def plainArg (e:Expr):Bool:=onStar e (λU=>true) λU U=>false
theorem starEach_cons {e:Expr} {es:List Expr} {env:Env} (h:plainArg e=true):starEach (e::es) env=(false,eval e env)::starEach es env:=by
 cases e<;>first|rfl|cases h
def SoundSp (c:Cf) (lvl:Nat) (x:Cx) (es:List Expr) (l:CL):Prop:=
 ∀pos f w s σ A (Q:List Value->Shared->Prop) E k,FrOK x f->evL l s k=true->Rel c f w s σ->Room A lvl->
  (∀v s' w' σ' ds vs,k v s'=true->Rel c f w' s' σ'->Ext w σ.heap w' σ'.heap->ConcL c.ρ v ds->RdL c.wo.params w' σ'.heap ds vs->vs.length=es.length->Q vs σ')->wpAny (model c.prog c.wo) A (spliced (backTo pos (starEach es f.cur))) Q E σ
theorem soundSp_nil:SoundSp c lvl x [] .nil:=by
 intro pos f w s σ A Q E k fo h rel rm post
 exact wpAny_pure (post .nil s w σ [] [] h rel (.refl _ _) .nil .nil rfl)
theorem soundSp_cons {e:Expr} {es:List Expr} {a:C} {l:CL} (he:plainArg e=true) (H:SoundE c lvl x e a) (L:SoundSp c lvl x es l):SoundSp c lvl x (e::es) (.cons a l):=by
 intro pos f w s σ A Q E k fo h rel rm post
 have h:a s (λv s=>evL l s λvs s=>k (.cons v vs) s)=true:=h
 rw[starEach_cons he]
 show wpAny _ A (do let v ←eval e f.cur;let here ←pure [v];return here++(← holding here (spliced (backTo pos (starEach es f.cur))))) Q E σ
 refine wpAny_bind (H f w s σ A _ E _ fo h rel rm ?_)
 intro v s1 w1 σ1 d rv e1 rel1 X1 C1 r1
 refine wpAny_bind (wpAny_pure (wpAny_bind (wpAny_holding (L pos f w1 s1 σ1 A _ E _ fo e1 rel1 rm ?_))))
 intro vs s2 w2 σ2 ds rvs e2 rel2 X2 C2 r2 ln
 exact wpAny_pure (post _ s2 w2 σ2 (d::ds) (rv::rvs) e2 rel2 (X1.trans X2) (.cons C1 C2) (.cons (r1.ext X2) r2) (by show (rvs.length+1)=es.length+1;rw[ln]))
theorem Rel.freshX {f:Fm} {w:Wd} {s:St} {σ:Shared} (R:Rel c f w s σ):¬w.X σ.heap.objs.size:=λq=>by
 obtain ⟨o,e⟩:=R.dom _ q
 exact absurd (Heap.lt_size e) (Nat.lt_irrefl _)
theorem RdL.length {Pm:Params} {w:Wd} {h:Heap} {ds:List CD} {vs:List Value} (r:RdL Pm w h ds vs):vs.length=ds.length:=RdL.ind rfl (λU U e=>congrArg (·+1) e) r
theorem new_tuple {f:Fm} {w:Wd} {s:St} {σ:Shared} {A:Around} {E:Value->Shared->Prop} {Q:Value->Shared->Prop} {vs:List Value} {ds:List CD} {v:AV} (R:Rel c f w s σ) (C:ConcL c.ρ v ds) (r:RdL c.wo.params w σ.heap ds vs)
  (hsz:vs.length≤10000) (h:∀σ' rv,Rel c f w s σ'->Ext w σ.heap w σ'.heap->Rd c.wo.params w σ'.heap (.tup ds) rv->Q rv σ'):wpAny (model c.prog c.wo) A (newTuple vs) Q E σ:=by
 have k:∀a o,σ.heap.get? a=some o->(σ.heap.push {cls:=.type "tuple",data:=.seq vs.toArray}).get? a=some o:=λa o e=>Heap.get?_push_of_some _ e
 refine wpAny_newObj_type (h _ _ (R.grow (tk:=σ.toks) k) (.grow k) (.tup (Heap.get?_push_size _ rfl) rfl rfl ⟨R.freshX,by simpa using hsz⟩ (by simpa using r.ext (.grow k)))) ?_
 show vs.toArray.size≤sizeLine
 rw[List.size_toArray]
 exact Nat.le_trans hsz (by decide)
theorem sound_tup {es:List Expr} {l:CL} {n:Nat} {pos:Pos} (H:SoundSp c lvl x es l) (hn:es.length≤10000):SoundE c lvl x (.Tuple es n pos) (tupE l):=by
 intro f w s σ A Q E k fo h rel rm post
 show wpAny _ A (do standAt pos;newTuple (← spliced (backTo pos (starEach es f.cur)))) Q E σ
 refine wpAny_bind (wpAny_standAt (wpAny_bind (H pos f w s σ A _ E _ fo h rel rm ?_)))
 intro v s1 w1 σ1 ds vs e1 rel1 X1 C1 r1 ln
 exact new_tuple rel1 C1 r1 (by omega) λσ' rv R' X' r'=>post _ s1 w1 σ' _ rv e1 R' (X1.trans X') (.tup C1) r'
theorem sound_lst {es:List Expr} {l:CL} {pos:Pos} (H:SoundSp c lvl x es l) (hn:es.length≤10000):SoundE c lvl x (.List es pos) (lstE l):=by
 intro f w s σ A Q E k fo h rel rm post
 show wpAny _ A (do standAt pos;newList (← spliced (backTo pos (starEach es f.cur)))) Q E σ
 refine wpAny_bind (wpAny_standAt (wpAny_bind (H pos f w s σ A _ E _ fo h rel rm ?_)))
 intro v s1 w1 σ1 ds vs e1 rel1 X1 C1 r1 ln
 have e1:newO (.list v) s1 k=true:=e1
 have kp:∀a o,σ1.heap.get? a=some o->(σ1.heap.push (lObj vs.toArray 0)).get? a=some o:=λa o e=>Heap.get?_push_of_some _ e
 have hb:σ1.heap.get? σ1.heap.objs.size=none:=by
  cases e:σ1.heap.get? σ1.heap.objs.size with
  |none=>rfl
  |some o=>exact absurd (Heap.lt_size e) (Nat.lt_irrefl _)
 have X2:Ext w1 σ1.heap (w1.new s1.nx σ1.heap.objs.size σ1.heap.objs.size) (σ1.heap.push (lObj vs.toArray 0)):=.new rel1.nxNone hb kp
 obtain ⟨R',X'⟩:=rel1.new (tk:=σ1.toks) (o:=.list v) (a:=σ1.heap.objs.size) hb kp ⟨ds,vs.toArray,0,rfl,Heap.get?_push_size _ rfl,C1,by simpa using r1.ext X2,by simp;omega⟩
 refine wpAny_newObj_type (post (.loc s1.nx) _ _ _ (.loc s1.nx) _ e1 R' (X1.trans X') (.loc _) (.loc (b:=σ1.heap.objs.size) Wd.new_eta)) ?_
 show vs.toArray.size≤sizeLine
 rw[List.size_toArray]
 exact Nat.le_trans (show vs.length≤10000 by omega) (by decide)
end
section
variable {ρ:Rho}
theorem plainA_conc (x:AV):(∀(n:Nat) d,plainA x n=true->Conc ρ x d->d.plain n=true)∧(∀(n:Nat) ds,plainA x n=true->ConcL ρ x ds->ds.all (CD.plain n)=true):=by
 induction x with
 |none=>exact ⟨λn d h X=>by cases X;rfl,λn d h X=>X.inv⟩
 |bool b=>exact ⟨λn d h X=>by cases X;rfl,λn d h X=>X.inv⟩
 |nat b=>exact ⟨λn d h X=>by cases X;rfl,λn d h X=>X.inv⟩
 |neg b=>exact ⟨λn d h X=>by cases X;rfl,λn d h X=>X.inv⟩
 |sym a k=>exact ⟨λn d h X=>by cases X;rfl,λn d h X=>X.inv⟩
 |rng a k=>exact ⟨λn d h X=>by cases X;rfl,λn d h X=>X.inv⟩
 |any=>exact ⟨λn d h X=>by cases X;rfl,λn d h X=>X.inv⟩
 |str cd=>exact ⟨λn d h X=>by cases X with|str s o=>exact o,λn d h X=>X.inv⟩
 |sany=>exact ⟨λn d h X=>(fF h),λn d h X=>X.inv⟩
 |byt xs ih=>exact ⟨λn d h X=>(fF h),λn d h X=>X.inv⟩
 |dic xs ih=>exact ⟨λn d h X=>(fF h),λn d h X=>X.inv⟩
 |loc p=>exact ⟨λn d h X=>(fF h),λn d h X=>X.inv⟩
 |tup xs ih=>
  refine ⟨λn d h X=>?_,λn d h X=>X.inv⟩
  cases X with
  |tup X=>
   cases n with
   |zero=>exact fF h
   |succ m=>exact ih.2 m _ h X
 |lst xs ih=>
  refine ⟨λn d h X=>?_,λn d h X=>X.inv⟩
  cases X with
  |lst X=>
   cases n with
   |zero=>exact fF h
   |succ m=>exact ih.2 m _ h X
 |nil=>exact ⟨λn d h X=>X.inv,λn d h X=>by cases X;rfl⟩
 |cons a b ih1 ih2=>
  refine ⟨λn d h X=>X.inv,λn d h X=>?_⟩
  cases X with
  |cons X1 X2=>
   have h:and (plainA a n) (plainA b n)=true:=h
   rw[Bool.and_eq_true] at h
   rw[List.all_cons,Bool.and_eq_true]
   exact ⟨ih1.1 n _ h.1 X1,ih2.2 n _ h.2 X2⟩
 |dcons a b t ih1 ih2 ih3=>exact ⟨λn d h X=>X.inv,λn d h X=>X.inv⟩
end
section
variable {c:Cf}
theorem soundC_lt:SoundC c .Lt cLt:=by
 intro f w s σ A Q E x y dx dy u v t e h rel rm X Y rx ry ht he
 obtain ⟨⟨j,rfl⟩,⟨i,rfl⟩⟩:=leV_ints Y X h
 cases rx
 cases ry
 have d:Dec (i<j) t e:=by
  have:=leV_dec rel.bd Y X h
  exact ⟨λp=>this.2 (by omega),λp=>this.1 (by omega)⟩
 exact lt_int (dec_bool d ht he)
theorem soundC_gt:SoundC c .Gt cGt:=by
 intro f w s σ A Q E x y dx dy u v t e h rel rm X Y rx ry ht he
 obtain ⟨⟨i,rfl⟩,⟨j,rfl⟩⟩:=leV_ints X Y h
 cases rx
 cases ry
 have d:Dec (j<i) t e:=by
  have:=leV_dec rel.bd X Y h
  exact ⟨λp=>this.2 (by omega),λp=>this.1 (by omega)⟩
 exact gt_int (dec_bool d ht he)
theorem eq_plain {σ:Shared} {A:Around} {Q:Value->Shared->Prop} {E:Value->Shared->Prop} {s:St} {x y:AV} {dx dy:CD} {u v:Value} {as bs:List Addr} {t e:Bool} (B:BOk c.ρ s.bd) (h:eqP s.bd x y t e=true) (rm:Room A 0) (X:Conc c.ρ x dx) (Y:Conc c.ρ y dy)
  (rx:Reads σ.heap u dx.py as) (ry:Reads σ.heap v dy.py bs) (ht:t=true->∀tk,Q (.bool true) {σ with toks:=tk}) (he:e=true->∀tk,Q (.bool false) {σ with toks:=tk}):
  wpAny (model c.prog c.wo) A (compareOp .Eq u v) Q E σ:=by
 unfold eqP at h
 rw[Bool.and_eq_true,Bool.and_eq_true] at h
 have px:=(plainA_conc x).1 6 dx h.1.1 X
 have py:=(plainA_conc y).1 6 dy h.1.2 Y
 have lx:=plain_lay 6 dx px
 have ly:=plain_lay 6 dy py
 have d:=(eqV_dec B x).1 y t e dx dy h.2 X Y
 refine SeqAt.compareEq_reads rx ry lx.1 ly.1 ?_ ?_
 · have:=rm.units
   have:min dx.py.depth dy.py.depth≤6:=Nat.le_trans (Nat.min_le_left _ _) lx.2
   omega
 · cases q:PyData.eqv dx.py dy.py with
   |true=>exact ht (d.1 q) σ.toks
   |false=>exact he (d.2 (fne q)) σ.toks
end
section
variable {c:Cf} {lvl:Nat} {x:Cx}
theorem isNonT_dec {ρ:Rho} {v:AV} {d:CD} {Pm:Params} {w:Wd} {h:Heap} {rv:Value} {t f:Bool} (e:isNonT v t f=true) (C:Conc ρ v d) (r:Rd Pm w h d rv):Dec ((rv==Value.none)=true) t f:=by
 cases C with
 |none=>cases r;exact .yes rfl e
 |bool=>cases r;exact .no Bool.false_ne_true e
 |nat=>cases r;exact .no Bool.false_ne_true e
 |neg=>cases r;exact .no Bool.false_ne_true e
 |sym=>cases r;exact .no Bool.false_ne_true e
 |rng=>cases r;exact .no Bool.false_ne_true e
 |any=>cases r;exact .no Bool.false_ne_true e
 |str=>cases r;exact .no Bool.false_ne_true e
 |sany=>cases r;exact .no Bool.false_ne_true e
 |byt=>cases r;exact .no Bool.false_ne_true e
 |tup=>cases r;exact .no Bool.false_ne_true e
 |lst=>cases r;exact .no Bool.false_ne_true e
 |dic=>cases r;exact .no Bool.false_ne_true e
 |loc=>cases r;exact .no Bool.false_ne_true e
theorem sound_isN {e:Expr} {a:C} {k:Nat} {p pos:Pos} (H:SoundE c lvl x e a):SoundT c lvl x (.Compare e [.Is] [.Constant .none k p] pos) (isN a):=by
 intro f w s σ A Q E t u fo h rel rm pt pu
 refine wpAny_isTrue_Compare1 (H f w s σ A _ E _ fo h rel rm ?_) rfl
 intro v s1 w1 σ1 d rv e1 rel1 X1 C1 r1
 refine wpAny_Constant_none ?_
 refine wpAny_is_plain ?_ ?_
 · cases r1<;>rfl
 · have dd:=isNonT_dec e1 C1 r1
   cases q:(rv==Value.none) with
   |true=>exact wpAny_truthy_bool (pt s1 w1 σ1 (dd.1 q) rel1 X1)
   |false=>exact wpAny_truthy_bool (pu s1 w1 σ1 (dd.2 (fne q)) rel1 X1)
theorem sound_isNot {e:Expr} {a:C} {k:Nat} {p pos:Pos} (H:SoundE c lvl x e a):SoundT c lvl x (.Compare e [.IsNot] [.Constant .none k p] pos) (noT (isN a)):=by
 intro f w s σ A Q E t u fo h rel rm pt pu
 refine wpAny_isTrue_Compare1 (H f w s σ A _ E _ fo h rel rm ?_) rfl
 intro v s1 w1 σ1 d rv e1 rel1 X1 C1 r1
 refine wpAny_Constant_none ?_
 refine wpAny_isNot_plain ?_ ?_
 · cases r1<;>rfl
 · have dd:=isNonT_dec e1 C1 r1
   cases q:(rv==Value.none) with
   |true=>exact wpAny_truthy_bool (pu s1 w1 σ1 (dd.1 q) rel1 X1)
   |false=>exact wpAny_truthy_bool (pt s1 w1 σ1 (dd.2 (fne q)) rel1 X1)
end
section
variable (c:Cf)
def SoundA (lvl:Nat) (x:Cx) (t:Expr) (a:A):Prop:=
 ∀f w s σ A (Q:Unit->Shared->Prop) E k v d rv,FrOK x f->a v s k=true->Rel c f w s σ->Room A lvl->Conc c.ρ v d->Rd c.wo.params w σ.heap d rv->PostU c f w σ.heap k (Q ())->wpAny (model c.prog c.wo) A (assign t f.cur rv) Q E σ
end
section
variable {c:Cf} {lvl:Nat} {x:Cx}
theorem FrOK.cur_none {f:Fm} (fo:FrOK x f) (hx:x.comp=none):f.comp=none∧f.cur=f.env:=by
 have:=fo.comp
 rw[hx] at this
 exact ⟨this,by unfold Fm.cur;rw[this]⟩
theorem sound_tVar {n:Str} {pos:Pos} (hx:x.comp=none) (hs:okS n=true) (hk:x.scope.names.lookup n=some .local∨x.scope.names.lookup n=some .cell):SoundA c lvl x (.Name n pos) (tVar (sc n)):=by
 intro f w s σ A Q E k v d rv fo h rel rm C r post
 obtain ⟨fc,fcur⟩:=fo.cur_none hx
 rw[fcur]
 have hkind:∀kd,x.scope.names.lookup n=some kd->f.env.kindOf n=some kd:=λkd e=>by unfold Env.kindOf;rw[fo.scope];exact e
 refine wpAny_assign_Name (store_name rel fc (by rw[fo.scope];exact fo.kind) ?_ hs C r λσ' R' X'=>post _ w σ' h R' X')
 rcases hk with hk|hk
 · exact .inl (hkind _ hk)
 · exact .inr ⟨hkind _ hk,fo.cells n (hkind _ hk)⟩
end
section
variable {c:Cf} {lvl:Nat} {x:Cx}
theorem sound_whl {t:Expr} {b:List Stmt} {T:T} {B:S} {m:Nat} {pos:Pos} (H:SoundT c lvl x t T) (L:SoundS c lvl x b B):SoundX c lvl x (.While t b [] pos) (whl T B m):=by
 intro f w s σ A Q E n r k fo h rel rm pn pr pk
 refine wpAny_While (codeAny_whileLoop (λj σ'=>∃s' w',whl T B j s' n r k=true∧Rel c f w' s' σ'∧Ext w σ.heap w' σ'.heap) ?_ m ⟨s,w,h,rel,.refl _ _⟩)
 intro j σ1 h9;obtain ⟨s1,w1,h1,rel1,X1⟩:=h9
 cases j with
 |zero=>exact fF h1
 |succ j=>
  have h1:T s1 (λs=>B s (λs=>whl T B j s n r k) r (λs=>whl T B j s n r k)) n=true:=h1
  refine H f w1 s1 σ1 A _ _ _ _ fo h1 rel1 rm ?_ ?_
  · intro s2 w2 σ2 e2 rel2 X2
    simp only[if_true]
    refine L f w2 s2 σ2 A _ _ _ _ _ fo e2 rel2 rm ?_ ?_ ?_
    · exact λs3 w3 σ3 e3 rel3 X3=>⟨j,Nat.lt_succ_self j,s3,w3,e3,rel3,X1.trans (X2.trans X3)⟩
    · exact λv s3 w3 σ3 d rv e3 rel3 X3 C3 r3=>pr v s3 w3 σ3 d rv e3 rel3 (X1.trans (X2.trans X3)) C3 r3
    · exact λs3 w3 σ3 e3 rel3 X3=>⟨j,Nat.lt_succ_self j,s3,w3,e3,rel3,X1.trans (X2.trans X3)⟩
  · intro s2 w2 σ2 e2 rel2 X2
    simp only[Bool.false_eq_true,if_false]
    exact wpAny_pure (pn s2 w2 σ2 e2 rel2 (X1.trans X2))
end
section
variable {c:Cf} {lvl:Nat} {x:Cx}
theorem isCons_true {v:AV} {k:AV->AV->Bool} (h:isCons v k=true):∃a b,v=.cons a b∧k a b=true:=by
 cases v with
 |cons a b=>exact ⟨a,b,rfl,h⟩
 |_=>exact fF h
theorem isNil_true {v:AV} {k:Bool} (h:isNil v k=true):v=.nil∧k=true:=by
 cases v with
 |nil=>exact ⟨rfl,h⟩
 |_=>exact fF h
theorem isTup_true {v:AV} {k:AV->Bool} (h:isTup v k=true):∃a,v=.tup a∧k a=true:=by
 cases v with
 |tup a=>exact ⟨a,rfl,h⟩
 |_=>exact fF h
theorem isLoc_true {v:AV} {k:P->Bool} (h:isLoc v k=true):∃p,v=.loc p∧k p=true:=by
 cases v with
 |loc a=>exact ⟨a,rfl,h⟩
 |_=>exact fF h
def SoundAs (c:Cf) (lvl:Nat) (x:Cx) (ts:List Expr) (l:AL):Prop:=
 (lenT l=ts.length∧ts.all plainArg=true)∧∀f w s σ A (Q:Unit->Shared->Prop) E k v ds rvs,FrOK x f->evT l v s k=true->Rel c f w s σ->Room A lvl->ConcL c.ρ v ds->RdL c.wo.params w σ.heap ds rvs->PostU c f w σ.heap k (Q ())->
   wpAny (model c.prog c.wo) A (assignInOrder ((assignEach ts f.cur).map (·.2)) rvs) Q E σ
theorem soundAs_nil:SoundAs c lvl x [] .nil:=by
 refine ⟨⟨rfl,rfl⟩,?_⟩
 intro f w s σ A Q E k v ds rvs fo h rel rm C r post
 obtain ⟨rfl,h⟩:=isNil_true (show isNil v (k s)=true from h)
 cases C
 cases r
 exact wpAny_pure (post.now h rel)
theorem assignEach_cons {e:Expr} {es:List Expr} {env:Env} (h:plainArg e=true):assignEach (e::es) env=(false,assign e env)::assignEach es env:=by
 cases e<;>first|rfl|cases h
set_option tactic.hygienic true in
theorem soundAs_cons {e:Expr} {es:List Expr} {a:A} {l:AL} (he:plainArg e=true) (H:SoundA c lvl x e a) (L:SoundAs c lvl x es l):SoundAs c lvl x (e::es) (.cons a l):=by
 refine ⟨⟨by show lenT l+1=es.length+1;rw[L.1.1],by rw[List.all_cons,he,L.1.2];rfl⟩,?_⟩
 intro f w s σ A Q E k v ds rvs fo h rel rm C r post
 obtain ⟨v1,v2,rfl,h⟩:=isCons_true (show isCons v (λv vs=>a v s λs=>evT l vs s k)=true from h)
 cases C with
 |cons C1 C2=>
 cases r with
 |cons r1 r2=>
 rw[assignEach_cons he]
 rename_i rv rvs
 show wpAny _ A (do holding rvs (assign e f.cur rv);assignInOrder ((assignEach es f.cur).map (·.2)) rvs) Q E σ
 refine wpAny_bind (wpAny_holding (H f w s σ A _ E _ v1 _ rv fo h rel rm C1 r1 ?_))
 intro s1 w1 σ1 e1 rel1 X1
 exact L.2 f w1 s1 σ1 A Q E k v2 _ rvs fo e1 rel1 rm C2 (r2.ext X1) (post.ext X1)
theorem assignEach_len:∀{es:List Expr} {env:Env},es.all plainArg=true->(assignEach es env).length=es.length∧(assignEach es env).findIdx? (·.1)=none
 |[],_,_=>⟨rfl,rfl⟩
 |e::es,env,h=>by
  rw[List.all_cons,Bool.and_eq_true] at h
  have ih:=assignEach_len (env:=env) h.2
  rw[assignEach_cons h.1]
  exact ⟨by rw[List.length_cons,ih.1,List.length_cons],by rw[List.findIdx?_cons];simp[ih.2]⟩
theorem lenA_conc {ρ:Rho} {v:AV} {ds:List CD} (X:ConcL ρ v ds):lenA v=ds.length:=ConcL.ind rfl (λU U e=>congrArg (·+1) e) X
theorem sound_tTup {es:List Expr} {l:AL} {n:Nat} {pos:Pos} (L:SoundAs c lvl x es l):SoundA c lvl x (.Tuple es n pos) (tTup l):=by
 intro f w s σ A Q E k v d rv fo h rel rm C r post
 obtain ⟨vs,rfl,h⟩:=isTup_true h
 rcases ite_true h with ⟨q,h⟩|⟨_,h⟩
 · cases C with
   |tup C=>
   cases r with
   |tup e cl dd nx rs=>
   have ln:=beq_true q
   have al:=assignEach_len (env:=f.cur) L.1.2
   refine wpAny_assign_Tuple rm.handled ⟨_,e,cl,_,dd⟩ ?_ al.2 λh' hx=>?_
   · rw[al.1,←L.1.1,←ln,lenA_conc C,←rs.length];simp
   · have kp:∀a o,σ.heap.get? a=some o->h'.get? a=some o:=λa o e=>hx a o (Nat.ne_of_lt (Heap.lt_size e)) e
     exact L.2 f w s _ A Q E k vs _ _ fo h (rel.grow (tk:=σ.toks) kp) rm C (rs.ext (.grow kp)) (post.ext (.grow kp))
 · cases h
end
section
variable {c:Cf} {lvl:Nat} {x:Cx}
theorem truthy_true {v:AV} {s:St} {t f:Bool} (h:truthy v s t f=true):∃b,v=.bool b∧ite b t f=true:=by
 cases v with
 |bool b=>exact ⟨b,rfl,h⟩
 |_=>exact fF h
theorem sound_tst {e:Expr} {a:C} (H:SoundE c lvl x e a) (he:∀env whole,isTrue e env whole=(do let v ←whole;standAt e.pos;holding [v] (PySem.truthy v))):SoundT c lvl x e (tstT a):=by
 intro f w s σ A Q E t u fo h rel rm pt pu
 refine wpAny_isTrue_value (H f w s σ A _ E _ fo h rel rm ?_) (he _ _)
 intro v s1 w1 σ1 d rv e1 rel1 X1 C1 r1
 obtain ⟨b,rfl,h⟩:=truthy_true e1
 cases C1
 cases r1
 refine wpAny_truthy_bool ?_
 cases b with
 |true=>exact pt s1 w1 σ1 h rel1 X1
 |false=>exact pu s1 w1 σ1 h rel1 X1
theorem sound_cmpV {op:CmpOp} {g:Cm} {l r:Expr} {a b:C} {pos:Pos} (G:SoundC c op g) (L:SoundE c lvl x l a) (R:SoundE c lvl x r b) (hm:behindInMarks op r=false):SoundE c lvl x (.Compare l [op] [r] pos) (ofT (cmp g a b)):=by
 intro f w s σ A Q E k fo h rel rm post
 refine wpAny_Compare1 (L f w s σ A _ E _ fo h rel rm ?_) hm
 intro v s1 w1 σ1 d1 rv1 e1 rel1 X1 C1 r1
 refine R f w1 s1 σ1 A _ E _ fo e1 rel1 rm ?_
 intro v2 s2 w2 σ2 d2 rv2 e2 rel2 X2 C2 r2
 refine G f w2 s2 σ2 A _ E v v2 d1 d2 rv1 rv2 _ _ e2 rel2 (rm.down (Nat.zero_le _)) C1 C2 (r1.ext X2) r2 ?_ ?_
 · exact λet tk=>post (.bool true) s2 w2 _ _ _ et rel2.toks (X1.trans X2) (.bool true) (.bool true)
 · exact λet tk=>post (.bool false) s2 w2 _ _ _ et rel2.toks (X1.trans X2) (.bool false) (.bool false)
end
section
variable {c:Cf} {lvl:Nat} {x:Cx}
def SoundBV (c:Cf) (op:BoolOp) (lvl:Nat) (x:Cx) (es:List Expr) (C:C):Prop:=
 ∀pos f w s σ A (Q:Value->Shared->Prop) E k,FrOK x f->C s k=true->Rel c f w s σ->Room A lvl->Post c f w σ.heap k Q->wpAny (model c.prog c.wo) A (boolOp pos op (evalEach es f.cur)) Q E σ
theorem soundBV_one {op:BoolOp} {e:Expr} {a:C} (H:SoundE c lvl x e a):SoundBV c op lvl x [e] a:=by
 intro pos f w s σ A Q E k fo h rel rm post
 exact H f w s σ A Q E k fo h rel rm post
theorem soundBV_or {e e':Expr} {es:List Expr} {a b:C} (H:SoundE c lvl x e a) (L:SoundBV c .Or lvl x (e'::es) b):SoundBV c .Or lvl x (e::e'::es) (orC a b):=by
 intro pos f w s σ A Q E k fo h rel rm post
 show wpAny _ A (do
  let v ←eval e f.cur
  standAt pos
  let t ←holding [v] (PySem.truthy v)
  match BoolOp.Or,t with
  | .And,false| .Or,true=>pure v
  |_,_=>boolOp pos .Or (evalEach (e'::es) f.cur)) Q E σ
 refine wpAny_bind (H f w s σ A _ E _ fo h rel rm ?_)
 intro v s1 w1 σ1 d rv e1 rel1 X1 C1 r1
 obtain ⟨q,rfl,h⟩:=truthy_true e1
 cases C1
 cases r1
 refine wpAny_bind (wpAny_standAt (wpAny_bind (wpAny_holding (wpAny_truthy_bool ?_))))
 cases q with
 |true=>exact wpAny_pure (post _ s1 w1 σ1 _ _ h rel1 X1 (.bool true) (.bool true))
 |false=>exact L pos f w1 s1 σ1 A Q E k fo h rel1 rm (post.ext X1)
theorem soundBV_and {e e':Expr} {es:List Expr} {a b:C} (H:SoundE c lvl x e a) (L:SoundBV c .And lvl x (e'::es) b):SoundBV c .And lvl x (e::e'::es) (anC a b):=by
 intro pos f w s σ A Q E k fo h rel rm post
 show wpAny _ A (do
  let v ←eval e f.cur
  standAt pos
  let t ←holding [v] (PySem.truthy v)
  match BoolOp.And,t with
  | .And,false| .Or,true=>pure v
  |_,_=>boolOp pos .And (evalEach (e'::es) f.cur)) Q E σ
 refine wpAny_bind (H f w s σ A _ E _ fo h rel rm ?_)
 intro v s1 w1 σ1 d rv e1 rel1 X1 C1 r1
 obtain ⟨q,rfl,h⟩:=truthy_true e1
 cases C1
 cases r1
 refine wpAny_bind (wpAny_standAt (wpAny_bind (wpAny_holding (wpAny_truthy_bool ?_))))
 cases q with
 |false=>exact wpAny_pure (post _ s1 w1 σ1 _ _ h rel1 X1 (.bool false) (.bool false))
 |true=>exact L pos f w1 s1 σ1 A Q E k fo h rel1 rm (post.ext X1)
theorem sound_boolV {op:BoolOp} {es:List Expr} {a:C} {pos:Pos} (H:SoundBV c op lvl x es a):SoundE c lvl x (.BoolOp op es pos) a:=by
 intro f w s σ A Q E k fo h rel rm post
 exact H pos f w s σ A Q E k fo h rel rm post
end
section
variable {c:Cf} {lvl:Nat} {x:Cx}
theorem sound_notV {e:Expr} {a:C} {pos:Pos} (H:SoundE c lvl x e a):SoundE c lvl x (.UnaryOp .Not e pos) (ofT (noT (tstT a))):=by
 intro f w s σ A Q E k fo h rel rm post
 have h:a s (λv s=>truthy v s (k (.bool false) s) (k (.bool true) s))=true:=h
 show wpAny _ A (do let v ←eval e f.cur;standAt pos;holding [v] (unaryOp .Not v)) Q E σ
 refine wpAny_bind (H f w s σ A _ E _ fo h rel rm ?_)
 intro v s1 w1 σ1 d rv e1 rel1 X1 C1 r1
 obtain ⟨q,rfl,h⟩:=truthy_true e1
 cases C1
 cases r1
 refine wpAny_bind (wpAny_standAt (wpAny_holding (not_value (wpAny_truthy_bool ?_))))
 cases q with
 |true=>exact post _ s1 w1 σ1 _ _ h rel1 X1 (.bool false) (.bool false)
 |false=>exact post _ s1 w1 σ1 _ _ h rel1 X1 (.bool true) (.bool true)
end
section
variable {c:Cf} {lvl:Nat} {x:Cx}
theorem star_any:∀{es:List Expr} {env:Env} {pos:Pos},es.all plainArg=true->(backTo pos (starEach es env)).any (·.1)=false
 |[],_,_,_=>rfl
 |e::es,env,pos,h=>by
  rw[List.all_cons,Bool.and_eq_true] at h
  rw[starEach_cons h.1]
  show (false||(backTo pos (starEach es env)).any (·.1))=false
  rw[star_any h.2];rfl
end
theorem keyA_conc {ρ:Rho} (x:AV):(∀(n:Nat) d,keyA x n=true->Conc ρ x d->d.key n=true)∧(∀(n:Nat) ds,keyA x n=true->ConcL ρ x ds->ds.all (CD.key n)=true):=by
 induction x with
 |none=>exact ⟨λn d h X=>(fF h),λn d h X=>X.inv⟩
 |bool b=>exact ⟨λn d h X=>(fF h),λn d h X=>X.inv⟩
 |nat b=>exact ⟨λn d h X=>by cases X;rfl,λn d h X=>X.inv⟩
 |neg b=>exact ⟨λn d h X=>by cases X;rfl,λn d h X=>X.inv⟩
 |sym a k=>exact ⟨λn d h X=>by cases X;rfl,λn d h X=>X.inv⟩
 |rng a k=>exact ⟨λn d h X=>by cases X;rfl,λn d h X=>X.inv⟩
 |any=>exact ⟨λn d h X=>by cases X;rfl,λn d h X=>X.inv⟩
 |str cd=>exact ⟨λn d h X=>by cases X with|str s o=>exact o,λn d h X=>X.inv⟩
 |sany=>exact ⟨λn d h X=>(fF h),λn d h X=>X.inv⟩
 |byt xs ih=>exact ⟨λn d h X=>(fF h),λn d h X=>X.inv⟩
 |dic xs ih=>exact ⟨λn d h X=>(fF h),λn d h X=>X.inv⟩
 |lst xs ih=>exact ⟨λn d h X=>(fF h),λn d h X=>X.inv⟩
 |loc p=>exact ⟨λn d h X=>(fF h),λn d h X=>X.inv⟩
 |tup xs ih=>
  refine ⟨λn d h X=>?_,λn d h X=>X.inv⟩
  cases X with
  |tup X=>
   cases n with
   |zero=>exact fF h
   |succ m=>exact ih.2 m _ h X
 |nil=>exact ⟨λn d h X=>X.inv,λn d h X=>by cases X;rfl⟩
 |cons a b ih1 ih2=>
  refine ⟨λn d h X=>X.inv,λn d h X=>?_⟩
  cases X with
  |cons X1 X2=>
   have h:and (keyA a n) (keyA b n)=true:=h
   rw[Bool.and_eq_true] at h
   rw[List.all_cons,Bool.and_eq_true]
   exact ⟨ih1.1 n _ h.1 X1,ih2.2 n _ h.2 X2⟩
 |dcons a b t ih1 ih2 ih3=>exact ⟨λn d h X=>X.inv,λn d h X=>X.inv⟩
section
variable {ρ:Rho}
theorem strE_eqX (a:AV) (bd:BL) (c:Nat) (r ih:Bool):strE a c r ih=eqX a bd (.str c) r ih:=by cases a<;>rfl
theorem findD_findG {bd:BL} {q kvs:AV} {k:AV->Bool} {d:Bool}:findD bd q kvs k d=findG bd q kvs k d:=by
 cases q with
 |str c=>
  show foldD d (λa v U ih=>strE a c (k v) ih) kvs=foldD d (λa v U ih=>eqX a bd (.str c) (k v) ih) kvs
  congr 1
  funext a v _ ih
  exact strE_eqX a bd c (k v) ih
 |_=>rfl
theorem findG_dec {bd:BL} (B:BOk ρ bd) {q:AV} {kq:CD} (Q:Conc ρ q kq) (hq:kq.key 6=true) {k:AV->Bool} {d:Bool} {kvs:AV} {cs:List (CD×CD)} (X:ConcD ρ kvs cs) (hk:∀x∈cs,x.1.key 6=true) (h:findG bd q kvs k d=true):
  (∀u,getK kq cs=some u->∃v,Conc ρ v u∧k v=true)∧(getK kq cs=none->d=true):=by
 induction X using ConcD.ind with
 |nil=>exact ⟨λu e=>nS e,λU=>h⟩
 |@cons a v t da dv ds A V T ih=>
  have h:eqV bd a q (k v) (findG bd q t k d)=true:=h
  have dd:=(eqV_dec B a).1 q _ _ da kq h A Q
  have e:=key_eqv 6 da kq 6 (hk _ List.mem_cons_self) hq
  by_cases p:da=kq
  · rw[p,getK_hit]
    refine ⟨λu eu=>?_,λeu=>by cases eu⟩
    cases eu
    exact ⟨v,V,dd.1 (e.mpr p)⟩
  · rw[getK_miss p]
    exact ih (λx hx=>hk x (List.mem_cons_of_mem _ hx)) (dd.2 λz=>p (e.mp z))
theorem findD_dec {bd:BL} (B:BOk ρ bd) {q:AV} {kq:CD} (Q:Conc ρ q kq) (hq:kq.key 6=true) {k:AV->Bool} {d:Bool} {kvs:AV} {cs:List (CD×CD)} (C:ConcD ρ kvs cs) (hc:∀x∈cs,x.1.key 6=true) (h:findD bd q kvs k d=true):
  (∀u,getK kq cs=some u->∃v,Conc ρ v u∧k v=true)∧(getK kq cs=none->d=true):=by
 rw[findD_findG] at h
 exact findG_dec B Q hq C hc h
theorem putD_dec {bd:BL} (B:BOk ρ bd) {q w:AV} {kq kw:CD} (Q:Conc ρ q kq) (W:Conc ρ w kw) (hq:kq.key 6=true) {kvs:AV} {cs:List (CD×CD)} {k:AV->Nat->Bool} (X:ConcD ρ kvs cs) (hk:∀x∈cs,x.1.key 6=true) (h:putD bd q w kvs k=true):
  ∃r n,k r n=true∧ConcD ρ r (putK kq kw cs)∧((∃u,getK kq cs=some u)∧n=0∨getK kq cs=none∧n=1):=by
 induction X using ConcD.ind generalizing k with
 |nil=>exact ⟨_,_,h,.cons Q W .nil,.inr ⟨rfl,rfl⟩⟩
 |@cons a v t da dv ds A V T ih=>
  have h:eqV bd a q (k (.dcons a w t) 0) (putD bd q w t λr n=>k (.dcons a v r) n)=true:=h
  have dd:=(eqV_dec B a).1 q _ _ da kq h A Q
  have e:=key_eqv 6 da kq 6 (hk _ List.mem_cons_self) hq
  by_cases p:da=kq
  · subst p
    rw[getK_hit,putK_hit]
    exact ⟨_,_,dd.1 (e.mpr rfl),.cons A W T,.inl ⟨⟨_,rfl⟩,rfl⟩⟩
  · rw[getK_miss p,putK_miss p]
    obtain ⟨r,n,h1,h2,h3⟩:=ih (λx hx=>hk x (List.mem_cons_of_mem _ hx)) (dd.2 λz=>p (e.mp z))
    exact ⟨_,n,h1,.cons A V h2,h3⟩
end
section
variable {c:Cf} {f:Fm} {w:Wd} {s:St} {σ:Shared} {A:Around} {E:Value->Shared->Prop}
theorem RdE.keys {Pm:Params} {w:Wd} {h:Heap} {ds:List (CD×CD)} {es:List DictEntry} (r:RdE Pm w h ds es) (x:CD×CD) (m:x∈ds):x.1.key 6=true:=by
 induction r using RdE.ind with
 |nil=>exact nM m
 |cons k _ _ _ ih=>exact (List.mem_cons.mp m).elim (λe=>e▸k) ih
theorem lenD_conc {ρ:Rho} {v:AV} {ds:List (CD×CD)} (X:ConcD ρ v ds):lenD v=ds.length:=ConcD.ind rfl (λU U U e=>congrArg (·+1) e) X
theorem store_dict {p:P} {ep:Nat} {kvs q v:AV} {dq dv:CD} {kv vv:Value} {a b:Addr} {kk:AV->Nat->Bool} {Q:Unit->Shared->Prop} (rel:Rel c f w s σ) (rm:Room A 0) (hp:HT.find p s.hp=some (.dict ep kvs)) (he:w.eta p=some (a,b))
  (hq:dq.key 6=true) (C1:Conc c.ρ q dq) (C2:Conc c.ρ v dv) (r1:Rd c.wo.params w σ.heap dq kv) (r2:Rd c.wo.params w σ.heap dv vv) (h:putD s.bd q v kvs kk=true)
  (post:∀r n σ',kk r n=true->lenD r≤10000->Rel c f w (setO p (.dict (ep+n) r) s) σ'->Ext w σ.heap w σ'.heap->Q () σ') (hsz:∀r n,kk r n=true->lenD r≤10000):wpAny (model c.prog c.wo) A (setItem (.ref a) kv vv) Q E σ:=by
 obtain ⟨a',b',he',hW,hO,O⟩:=rel.obj p _ hp
 rw[he] at he'
 cases he'
 obtain ⟨ds,es,rfl,C,D⟩:=O
 obtain ⟨r,n,hk,Cr,hn⟩:=putD_dec rel.bd C1 C2 hq C D.rd.keys h
 have hu:=rm.units
 refine setItem_key D (by omega) hq r1 r2 ?_
 intro h' es' ep' tk g sb re hep
 have hlen:=hsz r n hk
 have hes:es'.size≤10000:=by
  have e1:=re.length
  have e2:=lenD_conc Cr
  have e3:es'.toList.length=es'.size:=by simp
  omega
 have hepn:ep'=ep+n:=by
  rcases hn with ⟨⟨u,hu⟩,rfl⟩|⟨hu,rfl⟩<;>rw[hep,hu]
  rfl
 subst hepn
 have O':ObjAt c w (.dict (ep+n) r) a a h':=⟨_,es',rfl,Cr,g,re,putK_nodup D.nd,D.sys,hes,D.W⟩
 exact post r n _ hk hlen (rel.write (tk:=tk) hp he sb O') (.write D.W sb ⟨_,g⟩)
end
section
variable {c:Cf} {f:Fm} {w:Wd} {s:St} {σ:Shared}
theorem isDict_true {o:AObj} {k:Nat->AV->Bool} (h:isDict o k=true):∃ep kvs,o=.dict ep kvs∧k ep kvs=true:=by
 cases o with
 |dict ep kvs=>exact ⟨ep,kvs,rfl,h⟩
 |_=>exact fF h
theorem isList_true {o:AObj} {k:AV->Bool} (h:isList o k=true):∃xs,o=.list xs∧k xs=true:=by
 cases o with
 |list xs=>exact ⟨xs,rfl,h⟩
 |_=>exact fF h
theorem isInst_true {o:AObj} {k:Nat->AV->Bool} (h:isInst o k=true):∃n kvs,o=.inst n kvs∧k n kvs=true:=by
 cases o with
 |inst n kvs=>exact ⟨n,kvs,rfl,h⟩
 |_=>exact fF h
theorem dicts_true (rel:Rel c f w s σ) {x:AV} {d:CD} {rv:Value} {k:AV->Bool} (C:Conc c.ρ x d) (r:Rd c.wo.params w σ.heap d rv) (h:dicts x s k=true):
  ∃a kvs ds,rv=.ref a∧k kvs=true∧ConcD c.ρ kvs ds∧DictAt c.wo.params w σ.heap a ds:=by
 cases C with
 |dic C=>
  cases r with
  |dic e ex dd nx re nd=>
   exact ⟨_,_,_,rfl,h,C,_,_,_,e,ex.1,dd,re,nd,ex.2,nx.2⟩
 |loc p=>
  cases r with
  |loc he=>
   obtain ⟨o,ho,h⟩:=HT.get_true (show HT.get p s.hp (λo=>isDict o λU xs=>k xs)=true from h)
   obtain ⟨ep,kvs,rfl,h⟩:=isDict_true h
   obtain ⟨a',b',he',_,_,O⟩:=rel.obj p _ ho
   rw[he] at he'
   cases he'
   obtain ⟨ds,es,rfl,C,D⟩:=O
   exact ⟨_,kvs,ds,rfl,h,C,D.get⟩
 |_=>exact fF h
end
section
variable {c:Cf} {f:Fm} {w:Wd} {s:St} {σ:Shared}
theorem view_true (rel:Rel c f w s σ) {x:AV} {d:CD} {rv:Value} {k:AV->Bool} (C:Conc c.ρ x d) (r:Rd c.wo.params w σ.heap d rv) (h:view x s k=true):
  ∃x' d',k x'=true∧(∀p,x'≠.loc p)∧Conc c.ρ x' d'∧(∀n,d'.plain n=true->∃as,Reads σ.heap rv d'.py as)∧(∀ds,d'=.dic ds->∃a,rv=.ref a∧DictAt c.wo.params w σ.heap a ds)∧
   (∀ds,d'=.lst ds->∃a o vs n,rv=.ref a∧σ.heap.get? a=some o∧o.cls=.type "list"∧o.data=.seq vs n∧RdL c.wo.params w σ.heap ds vs.toList∧vs.size≤10000):=by
 have same:∀{x:AV} {d:CD},(∀p,x≠.loc p)->Conc c.ρ x d->Rd c.wo.params w σ.heap d rv->k x=true->∃x' d',k x'=true∧(∀p,x'≠.loc p)∧Conc c.ρ x' d'∧(∀n,d'.plain n=true->∃as,Reads σ.heap rv d'.py as)∧(∀ds,d'=.dic ds->∃a,rv=.ref a∧DictAt c.wo.params w σ.heap a ds)∧
   (∀ds,d'=.lst ds->∃a o vs n,rv=.ref a∧σ.heap.get? a=some o∧o.cls=.type "list"∧o.data=.seq vs n∧RdL c.wo.params w σ.heap ds vs.toList∧vs.size≤10000):=by
  intro x d nl C r h
  refine ⟨x,d,h,nl,C,λn p=>Rd.reads n d rv p r,λds e=>?_,λds e=>?_⟩
  · subst e
    cases r with
    |dic e ex dd nx re nd=>exact ⟨_,rfl,_,_,_,e,ex.1,dd,re,nd,ex.2,nx.2⟩
  · subst e
    cases r with
    |lst e cl dd nx rs=>exact ⟨_,_,_,_,rfl,e,cl,dd,rs,nx.2⟩
 cases x with
 |loc p=>
  cases C with
  |loc p=>
  cases r with
  |loc he=>
  obtain ⟨o,ho,h⟩:=HT.get_true (show HT.get p s.hp (λo=>AObj.rec (motive:=λU=>Bool) (λxs=>k (.lst xs)) (λU xs=>k (.dic xs)) (λU U=>false) o)=true from h)
  cases o with
  |list xs=>
   obtain ⟨a',b',he',_,_,O⟩:=rel.obj p _ ho
   rw[he] at he'
   cases he'
   obtain ⟨ds,vs,n,rfl,g,C,r,z⟩:=O
   refine ⟨.lst xs,.lst ds,h,(λp e=>by cases e),.lst C,λm p=>?_,λds e=>(nomatch e),λds' e=>?_⟩
   · cases m with
     |zero=>exact fF p
     |succ m=>
      change List.all _ (CD.plain _)=true at p
      obtain ⟨as,x⟩:=RdL.readsOf (Rd.reads m) r p
      exact ⟨_,.list g rfl rfl x⟩
   · cases e
     exact ⟨_,_,vs,n,rfl,g,rfl,rfl,r,z⟩
  |dict ep kvs=>
   obtain ⟨a',b',he',_,_,O⟩:=rel.obj p _ ho
   rw[he] at he'
   cases he'
   obtain ⟨ds,es,rfl,C,D⟩:=O
   refine ⟨.dic kvs,.dic ds,h,(λp e=>by cases e),.dic C,λm p=>?_,λds' e=>?_,λds e=>(nomatch e)⟩
   · exact fF p
   · cases e
     exact ⟨_,rfl,D.get⟩
  |inst q kvs=>exact fF h
 |none=>exact same (λp e=>by cases e) C r h
 |bool b=>exact same (λp e=>by cases e) C r h
 |nat n=>exact same (λp e=>by cases e) C r h
 |neg n=>exact same (λp e=>by cases e) C r h
 |sym a k'=>exact same (λp e=>by cases e) C r h
 |rng lo hi=>exact same (λp e=>by cases e) C r h
 |any=>exact same (λp e=>by cases e) C r h
 |str q=>exact same (λp e=>by cases e) C r h
 |sany=>exact same (λp e=>by cases e) C r h
 |byt xs=>exact same (λp e=>by cases e) C r h
 |tup xs=>exact same (λp e=>by cases e) C r h
 |lst xs=>exact same (λp e=>by cases e) C r h
 |dic xs=>exact same (λp e=>by cases e) C r h
 |nil=>exact same (λp e=>by cases e) C r h
 |cons a b=>exact same (λp e=>by cases e) C r h
 |dcons a b t=>exact same (λp e=>by cases e) C r h
inductive Hits (kb:List (CD×CD)):List (CD×CD)->Bool->Prop
 |nil:Hits kb [] true
 |miss {k v:CD} {r:List (CD×CD)}:getK k kb=none->Hits kb ((k,v)::r) false
 |hitF {k v u:CD} {r:List (CD×CD)}:getK k kb=some u->v.plain 6=true->u.plain 6=true->PyData.eqv v.py u.py=false->Hits kb ((k,v)::r) false
 |hitT {k v u:CD} {r:List (CD×CD)} {b:Bool}:getK k kb=some u->v.plain 6=true->u.plain 6=true->PyData.eqv v.py u.py=true->Hits kb r b->Hits kb ((k,v)::r) b
end
theorem eqD_dec {ρ:Rho} {bd:BL} (B:BOk ρ bd) {ys:AV} {kb:List (CD×CD)} {t f:Bool} (Y:ConcD ρ ys kb) (hkb:∀x∈kb,x.1.key 6=true) {xs:AV} {ka:List (CD×CD)} (X:ConcD ρ xs ka) (hk:∀x∈ka,x.1.key 6=true) (h:eqD bd ys t f xs=true):
  ∃r,Hits kb ka r∧(r=true->t=true)∧(r=false->f=true):=by
 induction X using ConcD.ind with
 |nil=>exact ⟨true,.nil,λU=>h,λe=>fF e.symm⟩
 |@cons a v tl da dv ds A V T ih=>
  have h:findD bd a ys (λw=>and (and (plainA v 6) (plainA w 6)) (eqV bd v w (eqD bd ys t f tl) f)) f=true:=h
  have dd:=findD_dec B A (hk _ List.mem_cons_self) Y hkb h
  cases g:getK da kb with
  |none=>exact ⟨false,.miss g,fF,λU=>dd.2 g⟩
  |some u=>
   obtain ⟨y,Cy,h⟩:=dd.1 u g
   rw[Bool.and_eq_true,Bool.and_eq_true] at h
   have p1:=(plainA_conc v).1 6 dv h.1.1 V
   have p2:=(plainA_conc y).1 6 u h.1.2 Cy
   have e:=(eqV_dec B v).1 y _ _ dv u h.2 V Cy
   cases q:PyData.eqv dv.py u.py with
   |false=>exact ⟨false,.hitF g p1 p2 q,fF,λU=>e.2 (fne q)⟩
   |true=>
    obtain ⟨r,H,h1,h2⟩:=ih (λx hx=>hk x (List.mem_cons_of_mem _ hx)) (e.1 q)
    exact ⟨r,.hitT g p1 p2 q H,h1,h2⟩
section
variable {prog:Program} {wo:World} {w:Wd} {A:Around} {E:Value->Shared->Prop} {σ:Shared}
theorem samePairs_key {nm:String} {a b:Addr} {ka kb:List (CD×CD)} {r:Bool} {Q:Bool->Shared->Prop} (da:DictAt wo.params w σ.heap a ka) (db:DictAt wo.params w σ.heap b kb) (hu:A.units+20<cLine) (hits:ka.length=kb.length->Hits kb ka r)
  (h:∀tk,Q (ka.length==kb.length&&r) {σ with toks:=tk}):wpAny (model prog wo) A (Builtin.Dict.samePairs nm a b) Q E σ:=by
 obtain ⟨oa,es,ep,hoa,_,hda,rea,nda,ha,_⟩:=da
 obtain ⟨ob,es',ep',hob,_,hdb,reb,ndb,hb,_⟩:=db
 have hla:ka.length=es.size:=by rw[← rea.length];exact Array.length_toList
 have hlb:kb.length=es'.size:=by rw[← reb.length];exact Array.length_toList
 rw[hla,hlb] at h
 unfold Builtin.Dict.samePairs Builtin.Dict.showsAll
 rw[if_neg (show ¬(a==sysModules)=true by rw[ha];exact Bool.false_ne_true),if_neg (show ¬(b==sysModules)=true by rw[hb];exact Bool.false_ne_true)]
 refine wpAny_bind (wpAny_pure (wpAny_bind (wpAny_pure ?_)))
 refine wpAny_bind (wpAny_dictEntries hoa hda ?_)
 dsimp only
 refine wpAny_bind (wpAny_dictEntries hob hdb ?_)
 by_cases hsz:es.size=es'.size
 case neg=>
  rw[if_pos (by simpa using hsz)]
  have hbf:(es.size==es'.size)=false:=by simpa using hsz
  rw[hbf,Bool.false_and] at h
  exact wpAny_bind (wpAny_rule (wpAny_pure (h σ.toks)))
 case pos=>
  have h':∀tk,Q r {σ with toks:=tk}:=by simpa[hsz] using h
  have hits':=hits (by rw[hla,hlb];exact hsz)
  rw[if_neg (by rw[hsz];simp)]
  refine wpAny_bind (wpAny_dictEpoch hoa hda ?_)
  refine wpAny_bind ?_
  rw[Std.Legacy.Range.forIn_eq_forIn_range']
  simp only[Std.Legacy.Range.size,Nat.sub_zero,Nat.add_sub_cancel,Nat.div_one]
  refine wpAny_forIn_list _
   (λrest q s'=>(∃tk,s'={σ with toks:=tk})∧q=(none,())∧∃i,rest=List.range' i (es.size-i)∧i≤es.size∧Hits kb (ka.drop i) r)
   _ ?_ ?_ _ _ ⟨⟨_,rfl⟩,rfl,0,by simp,Nat.zero_le _,hits'⟩
  · rintro x rest q s' ⟨⟨tk,rfl⟩,rfl,i,hr,hi,hpre⟩
    have hlt:i<es.size:=by
     rcases Nat.lt_or_ge i es.size with h|h
     · exact h
     · rw[Nat.sub_eq_zero_of_le h] at hr;simp at hr
    obtain ⟨rfl,hrest⟩:x=i∧rest=List.range' (i+1) (es.size-(i+1)):=by
     have e:es.size-i=(es.size-(i+1))+1:=by omega
     rw[e,List.range'_succ] at hr
     injection hr with h1 h2
     exact ⟨h1,h2⟩
    refine wpAny_bind (wpAny_dictEntries (s:={σ with toks:=tk}) hoa hda ?_)
    rw[Array.getElem?_eq_getElem hlt]
    have hlt':x<ka.length:=by rw[hla];exact hlt
    obtain ⟨k,v,g1,hk,hh,rk,rv⟩:=RdE.get x es[x] rea (by simp[hlt])
    have hdrop:ka.drop x=(k,v)::ka.drop (x+1):=by
     rw[List.drop_eq_getElem_cons hlt']
     rw[List.getElem?_eq_getElem hlt'] at g1
     rw[Option.some.inj g1]
    rw[hdrop] at hpre
    show wpAny _ _ (holding [es[x].key,es[x].val] _>>= _) _ _ _
    rw[hh]
    refine wpAny_bind (wpAny_holding (wpAny_bind (dictFind_key (σ:={σ with toks:=tk}) (by omega) hk rk hob hdb reb ndb ?_ ?_)))
    · intro hno
      have hn:=getK_none hno
      have er:r=false:=by
       cases hpre with
       |miss _=>rfl
       |hitF g _ _ _=>rfl
       |hitT g _ _ _ _=>rw[hn] at g;cases g
      refine wpAny_pure ?_
      show wpAny _ _ (if (!false)=true then _ else _) _ _ _
      rw[if_pos (by decide)]
      exact wpAny_pure (wpAny_pure (er▸h' tk))
    · intro j u hj
      have hs:=getK_some ndb hj
      have hjlt:j<es'.size:=by
       rcases Nat.lt_or_ge j kb.length with q|q
       · omega
       · rw[List.getElem?_eq_none q] at hj;cases hj
      refine wpAny_bind (wpAny_dictEntries (s:={σ with toks:=tk}) hob hdb ?_)
      rw[Array.getElem?_eq_getElem hjlt]
      obtain ⟨k',u',g2,_,_,_,ru⟩:=RdE.get j es'[j] reb (by simp[hjlt])
      rw[hj] at g2
      cases g2
      have ask:∀(pv:v.plain 6=true) (pu:u.plain 6=true) (Q:Bool->Shared->Prop),Q (PyData.eqv v.py u.py) {σ with toks:=tk}->wpAny (model prog wo) A (eqBool es[x].val es'[j].val) Q E {σ with toks:=tk}:=λpv pu Q hQ=>by
       obtain ⟨as,x1⟩:=Rd.reads 6 v _ pv rv
       obtain ⟨bs,x2⟩:=Rd.reads 6 u _ pu ru
       have l1:=plain_lay 6 v pv
       have l2:=plain_lay 6 u pu
       exact SeqAt.eqBoolOverData prog wo A E _ _ _ v.py u.py as bs Q x1 x2 l1.1 l2.1 (Nat.lt_of_le_of_lt (Nat.add_le_add_left (Nat.le_trans (Nat.min_le_left _ _) l1.2) _) (by omega)) hQ
      rcases (show (v.plain 6=true∧u.plain 6=true∧PyData.eqv v.py u.py=false∧r=false)∨(v.plain 6=true∧u.plain 6=true∧PyData.eqv v.py u.py=true∧Hits kb (ka.drop (x+1)) r) by
       cases hpre with
       |miss g=>rw[hs] at g;cases g
       |hitF g a1 a2 a3=>rw[hs] at g;cases g;exact .inl ⟨a1,a2,a3,rfl⟩
       |hitT g a1 a2 a3 a4=>rw[hs] at g;cases g;exact .inr ⟨a1,a2,a3,a4⟩) with ⟨pv,pu,q,er⟩|⟨pv,pu,q,hrr⟩
      · refine wpAny_holding (ask pv pu _ ?_)
        rw[q]
        show wpAny _ _ (if (!false)=true then _ else _) _ _ _
        rw[if_pos (by decide)]
        exact wpAny_pure (wpAny_pure (er▸h' tk))
      · refine wpAny_holding (ask pv pu _ ?_)
        rw[q]
        show wpAny _ _ (if (!true)=true then _ else _) _ _ _
        rw[if_neg (by decide)]
        refine wpAny_bind (wpAny_dictEpoch (s:={σ with toks:=tk}) hoa hda ?_)
        rw[if_neg (by simp)]
        exact wpAny_pure ⟨⟨tk,rfl⟩,rfl,x+1,hrest,hlt,hrr⟩
  · rintro q s' ⟨⟨tk,rfl⟩,rfl,i,hr,hi,hpre⟩
    have hin:i=es.size:=by
     rcases Nat.lt_or_ge i es.size with h|h
     · have e:es.size-i=(es.size-(i+1))+1:=by omega
       rw[e,List.range'_succ] at hr;exact nomatch hr
     · exact Nat.le_antisymm hi h
    refine wpAny_pure ?_
    rw[hin,←hla,List.drop_length] at hpre
    cases hpre
    exact h' tk
theorem dict_eq {a b:Addr} {ka kb:List (CD×CD)} {r:Bool} {Q:Value->Shared->Prop} (da:DictAt wo.params w σ.heap a ka) (db:DictAt wo.params w σ.heap b kb) (hu:A.units+30<cLine) (hits:ka.length=kb.length->Hits kb ka r)
  (h:∀tk,Q (.bool (ka.length==kb.length&&r)) {σ with toks:=tk}):wpAny (model prog wo) A (compareOp .Eq (.ref a) (.ref b)) Q E σ:=by
 refine wpAny_richCompare_same_room (op:=.Eq) da.typeIs db.typeIs PySem.F.slot_dict_eq (wpAny_call_entry PySem.F.slot_dict_eq da.typeIs PySem.F.entry_dict_eq ?_ (PySem.F.args_dict_eq_2 _ _)) (by omega)
 show wpAny _ _ (Builtin.Dict.dictSlotArgs "__eq__" ⟨[.ref a,.ref b],[]⟩>>= _) _ _ σ
 refine wpAny_bind ?_
 unfold Builtin.Dict.dictSlotArgs
 refine wpAny_bind (wpAny_notOrdered_dict da.typeIs ?_)
 show wpAny _ _ (pure (Value.ref a,Value.ref b)) _ _ σ
 refine wpAny_pure ?_
 refine wpAny_bind (wpAny_isInstance (T:="dict") db.typeIs PySem.F.sub_dict_dict ?_)
 refine ifn Bool.false_ne_true ?_
 refine wpAny_bind (wpAny_pure (wpAny_bind (wpAny_pure ?_)))
 refine wpAny_bind (samePairs_key (A:=A.in1) da db (by show A.units+1+20<cLine;omega) hits ?_)
 intro tk
 refine wpAny_pure ⟨_,rfl,?_,?_⟩
 · exact λx=>nomatch x
 · simpa using h tk
theorem dict_ne {a b:Addr} {ka kb:List (CD×CD)} {r:Bool} {Q:Value->Shared->Prop} (da:DictAt wo.params w σ.heap a ka) (db:DictAt wo.params w σ.heap b kb) (hu:A.units+30<cLine) (hits:ka.length=kb.length->Hits kb ka r)
  (h:∀tk,Q (.bool (!(ka.length==kb.length&&r))) {σ with toks:=tk}):wpAny (model prog wo) A (compareOp .NotEq (.ref a) (.ref b)) Q E σ:=by
 refine wpAny_richCompare_same_room (op:=.NotEq) da.typeIs db.typeIs PySem.F.slot_dict_ne (wpAny_call_entry PySem.F.slot_dict_ne da.typeIs PySem.F.entry_dict_ne ?_ (PySem.F.args_dict_ne_2 _ _)) (by omega)
 show wpAny _ _ (Builtin.Dict.dictSlotArgs "__ne__" ⟨[.ref a,.ref b],[]⟩>>= _) _ _ σ
 refine wpAny_bind ?_
 unfold Builtin.Dict.dictSlotArgs
 refine wpAny_bind (wpAny_notOrdered_dict da.typeIs ?_)
 show wpAny _ _ (pure (Value.ref a,Value.ref b)) _ _ σ
 refine wpAny_pure ?_
 refine wpAny_bind (wpAny_isInstance (T:="dict") db.typeIs PySem.F.sub_dict_dict ?_)
 refine ifn Bool.false_ne_true ?_
 refine wpAny_bind (wpAny_pure (wpAny_bind (wpAny_pure ?_)))
 refine wpAny_bind (samePairs_key (A:=A.in1) da db (by show A.units+1+20<cLine;omega) hits ?_)
 intro tk
 refine wpAny_pure ⟨_,rfl,?_,?_⟩
 · exact λx=>nomatch x
 · simpa using h tk
end
section
variable {c:Cf}
theorem ne_plain {σ:Shared} {A:Around} {Q:Value->Shared->Prop} {E:Value->Shared->Prop} {s:St} {x y:AV} {dx dy:CD} {u v:Value} {as bs:List Addr} {t e:Bool} (B:BOk c.ρ s.bd) (h:eqP s.bd x y e t=true) (rm:Room A 0) (X:Conc c.ρ x dx) (Y:Conc c.ρ y dy)
  (rx:Reads σ.heap u dx.py as) (ry:Reads σ.heap v dy.py bs) (ht:t=true->∀tk,Q (.bool true) {σ with toks:=tk}) (he:e=true->∀tk,Q (.bool false) {σ with toks:=tk}):
  wpAny (model c.prog c.wo) A (compareOp .NotEq u v) Q E σ:=by
 unfold eqP at h
 rw[Bool.and_eq_true,Bool.and_eq_true] at h
 have px:=(plainA_conc x).1 6 dx h.1.1 X
 have py:=(plainA_conc y).1 6 dy h.1.2 Y
 have lx:=plain_lay 6 dx px
 have ly:=plain_lay 6 dy py
 have d:=(eqV_dec B x).1 y _ _ dx dy h.2 X Y
 refine SeqAt.compareNe_reads rx ry lx.1 ly.1 ?_ ?_
 · have:=rm.units
   have:min dx.py.depth dy.py.depth≤6:=Nat.le_trans (Nat.min_le_left _ _) lx.2
   omega
 · cases q:PyData.eqv dx.py dy.py with
   |true=>exact he (d.1 q) σ.toks
   |false=>exact ht (d.2 (fne q)) σ.toks
theorem cEq_arms {s:St} {t e:Bool} {x' y':AV} (h:cEqV x' s y' t e=true):
  eqP s.bd x' y' t e=true∨∃xs,x'=.dic xs∧dicts y' s (λys=>ite (Nat.beq (lenD xs) (lenD ys)) (eqD s.bd ys t e xs) e)=true:=by
 cases x'<;>first|exact .inl h|exact .inr ⟨_,rfl,h⟩|exact fF h
theorem cEq_cEqG {x y:AV} {s:St} {t f:Bool}:cEq x y s t f=cEqG x y s t f:=by
 cases x<;>first|rfl|(cases y<;>rfl)
theorem dec_hits {ρ:Rho} {bd:BL} (B:BOk ρ bd) {xs ys:AV} {ka kb:List (CD×CD)} {t e:Bool} (X:ConcD ρ xs ka) (Y:ConcD ρ ys kb) (hka:∀x∈ka,x.1.key 6=true) (hkb:∀x∈kb,x.1.key 6=true) (h:ite (Nat.beq (lenD xs) (lenD ys)) (eqD bd ys t e xs) e=true):
  ∃r,(ka.length=kb.length->Hits kb ka r)∧((ka.length==kb.length&&r)=true->t=true)∧((ka.length==kb.length&&r)=false->e=true):=by
 rw[lenD_conc X,lenD_conc Y] at h
 rcases ite_true h with ⟨q,h⟩|⟨q,h⟩
 · have q:=beq_true q
   obtain ⟨r,H,h1,h2⟩:=eqD_dec B Y hkb X hka h
   exact ⟨r,λU=>H,λz=>h1 (by rw[q] at z;simpa using z),λz=>h2 (by rw[q] at z;simpa using z)⟩
 · have q:=beq_false q
   have e0:(ka.length==kb.length)=false:=by simpa using q
   exact ⟨false,λz=>absurd z q,λz=>(by rw[e0] at z;cases z),λU=>h⟩
theorem DictAt.keys {Pm:Params} {w:Wd} {h:Heap} {a:Addr} {kvs:List (CD×CD)} (D:DictAt Pm w h a kvs):∀x∈kvs,x.1.key 6=true:=by
 obtain ⟨_,_,_,_,_,_,re,_⟩:=D
 exact re.keys
theorem dic_of_view {ρ:Rho} {y':AV} {dy:CD} {s:St} {k:AV->Bool} (Y:Conc ρ y' dy) (h:dicts y' s k=true) (hn:∀p,y'≠.loc p):∃ys ds,y'=.dic ys∧dy=.dic ds∧ConcD ρ ys ds∧k ys=true:=by
 cases Y with
 |dic Y=>exact ⟨_,_,rfl,rfl,Y,h⟩
 |loc p=>exact absurd rfl (hn p)
 |_=>exact fF h
theorem soundC_eqne {op:CmpOp} {tt ff:Bool} (hP:op=.Eq∧tt=true∧ff=false∨op=.NotEq∧tt=false∧ff=true) {f:Fm} {w:Wd} {s:St} {σ:Shared} {A:Around} {Q:Value->Shared->Prop} {E:Value->Shared->Prop} {x y:AV} {dx dy:CD} {u v:Value} {t e:Bool}
  (h:cEq x y s t e=true) (rel:Rel c f w s σ) (rm:Room A 0) (X:Conc c.ρ x dx) (Y:Conc c.ρ y dy) (rx:Rd c.wo.params w σ.heap dx u) (ry:Rd c.wo.params w σ.heap dy v)
  (ht:t=true->∀tk,Q (.bool tt) {σ with toks:=tk}) (he:e=true->∀tk,Q (.bool ff) {σ with toks:=tk}):wpAny (model c.prog c.wo) A (compareOp op u v) Q E σ:=by
 rw[cEq_cEqG] at h
 obtain ⟨x',dx',h,nx,X',px,dX,_⟩:=view_true rel X rx h
 obtain ⟨y',dy',h,ny,Y',py,dY,_⟩:=view_true rel Y ry h
 rcases cEq_arms h with h|⟨xs,rfl,h⟩
 · have h0:=h
   unfold eqP at h0
   rw[Bool.and_eq_true,Bool.and_eq_true] at h0
   obtain ⟨as,a1⟩:=px 6 ((plainA_conc x').1 6 dx' h0.1.1 X')
   obtain ⟨bs,a2⟩:=py 6 ((plainA_conc y').1 6 dy' h0.1.2 Y')
   rcases hP with ⟨rfl,rfl,rfl⟩|⟨rfl,rfl,rfl⟩
   · exact eq_plain rel.bd h rm X' Y' a1 a2 ht he
   · exact ne_plain rel.bd h rm X' Y' a1 a2 he ht
 · cases X' with
   |dic X'=>
   obtain ⟨a,rfl,Da⟩:=dX _ rfl
   have hu:=rm.units
   obtain ⟨ys,ds,rfl,rfl,Y9,h⟩:=dic_of_view Y' h ny
   obtain ⟨b,rfl,Db⟩:=dY _ rfl
   obtain ⟨r,h1,h2,h3⟩:=dec_hits rel.bd X' Y9 Da.keys Db.keys h
   rcases hP with ⟨rfl,rfl,rfl⟩|⟨rfl,rfl,rfl⟩
   · refine dict_eq Da Db (by omega) h1 λtk=>?_
     cases q:(_&&r) with
     |true=>exact ht (h2 q) tk
     |false=>exact he (h3 q) tk
   · refine dict_ne Da Db (by omega) h1 λtk=>?_
     cases q:(_&&r) with
     |true=>exact ht (h2 q) tk
     |false=>exact he (h3 q) tk
theorem soundC_eq:SoundC c .Eq cEq:=by
 intro f w s σ A Q E x y dx dy u v t e h rel rm X Y rx ry ht he
 exact soundC_eqne (.inl ⟨rfl,rfl,rfl⟩) h rel rm X Y rx ry ht he
theorem soundC_ne:SoundC c .NotEq cNe:=by
 intro f w s σ A Q E x y dx dy u v t e h rel rm X Y rx ry ht he
 exact soundC_eqne (.inr ⟨rfl,rfl,rfl⟩) (show cEq x y s e t=true from h) rel rm X Y rx ry he ht
theorem inA_dec {ρ:Rho} {bd:BL} (B:BOk ρ bd) {x:AV} {dx:CD} (X:Conc ρ x dx) {t f:Bool} {xs:AV} {ds:List CD} (Y:ConcL ρ xs ds) (h:inA bd x t f xs=true):Dec ((CD.pys ds).any (λy=>PyData.eqv y dx.py)=true) t f:=by
 induction Y using ConcL.ind with
 |nil=>exact .no Bool.false_ne_true h
 |@cons a tl d ds A T ih=>
  have h:eqV bd a x t (inA bd x t f tl)=true:=h
  have e:=(eqV_dec B a).1 x _ _ d dx h A X
  change Dec ((PyData.eqv d.py dx.py||(CD.pys ds).any λy=>PyData.eqv y dx.py)=true) t f
  rw[Bool.or_eq_true]
  by_cases p:PyData.eqv d.py dx.py=true
  · exact .yes (.inl p) (e.1 p)
  · exact (ih (e.2 p)).iff ⟨.inr,λz=>z.elim (λq=>absurd q p) id⟩
theorem inS_true {op:CmpOp} {tt ff:Bool} (hP:op=.In∧tt=true∧ff=false∨op=.NotIn∧tt=false∧ff=true) {w:Wd} {s:St} {σ:Shared} {A:Around} {Q:Value->Shared->Prop} {E:Value->Shared->Prop} {x xs:AV} {dx:CD} {ds:List CD} {u:Value} {a:Addr} {o:Obj} {vs:Array Value} {n:Nat} {t e:Bool}
  (B:BOk c.ρ s.bd) (h:inS s.bd x xs t e=true) (rm:Room A 0) (X:Conc c.ρ x dx) (Y:ConcL c.ρ xs ds) (rx:Rd c.wo.params w σ.heap dx u) (ho:σ.heap.get? a=some o) (hc:o.cls=.type "list"∨o.cls=.type "tuple") (hd:o.data=.seq vs n) (rs:RdL c.wo.params w σ.heap ds vs.toList)
  (ht:t=true->∀tk,Q (.bool tt) {σ with toks:=tk}) (he:e=true->∀tk,Q (.bool ff) {σ with toks:=tk}):wpAny (model c.prog c.wo) A (compareOp op u (.ref a)) Q E σ:=by
 unfold inS at h
 rw[Bool.and_eq_true,Bool.and_eq_true] at h
 have p1:=(plainA_conc x).1 6 dx h.1.1 X
 have p2:=(plainA_conc (.tup xs)).1 6 (.tup ds) h.1.2 (.tup Y)
 have l1:=plain_lay 6 dx p1
 have l2:=plain_lay 6 (.tup ds) p2
 have d:=inA_dec B X Y h.2
 obtain ⟨as,a1⟩:=Rd.reads 6 dx u p1 rx
 obtain ⟨bs,a2⟩:=RdL.readsOf (Rd.reads 5) rs p2
 have hx:PyData.canLayAll0 (CD.pys ds)=true:=l2.1
 have hu:A.units+1+min (PyData.depthAll (CD.pys ds)) dx.py.depth<cLine:=by
  have:=rm.units
  have:min (PyData.depthAll (CD.pys ds)) dx.py.depth≤6:=Nat.le_trans (Nat.min_le_right _ _) l1.2
  omega
 have fin:∀b:Bool,Q (.bool (if b then tt else ff)) σ->Q (.bool (if b then tt else ff)) σ:=λU h=>h
 have go:Q (.bool (if (CD.pys ds).any (λy=>PyData.eqv y dx.py) then tt else ff)) σ:=by
  cases q:(CD.pys ds).any (λy=>PyData.eqv y dx.py) with
  |true=>exact ht (d.1 q) σ.toks
  |false=>exact he (d.2 (fne q)) σ.toks
 rcases hP with ⟨rfl,rfl,rfl⟩|⟨rfl,rfl,rfl⟩
 · have go':Q (.bool ((CD.pys ds).any (λy=>PyData.eqv y dx.py))) σ:=by
    revert go;cases (CD.pys ds).any (λy=>PyData.eqv y dx.py)<;>exact id
   rcases hc with hc|hc
   · exact SeqAt.in_list_reads (.list ho hc hd a2) a1 hx l1.1 hu go'
   · exact SeqAt.in_tuple_reads (.tuple ho hc hd a2) a1 hx l1.1 hu go'
 · have go':Q (.bool (!(CD.pys ds).any (λy=>PyData.eqv y dx.py))) σ:=by
    revert go;cases (CD.pys ds).any (λy=>PyData.eqv y dx.py)<;>exact id
   rcases hc with hc|hc
   · exact SeqAt.notIn_list_reads (.list ho hc hd a2) a1 hx l1.1 hu go'
   · exact SeqAt.notIn_tuple_reads (.tuple ho hc hd a2) a1 hx l1.1 hu go'
theorem inK_true {op:CmpOp} {tt ff:Bool} (hP:op=.In∧tt=true∧ff=false∨op=.NotIn∧tt=false∧ff=true) {w:Wd} {s:St} {σ:Shared} {A:Around} {Q:Value->Shared->Prop} {E:Value->Shared->Prop} {x xs:AV} {dx:CD} {ds:List (CD×CD)} {u:Value} {a:Addr} {t e:Bool}
  (B:BOk c.ρ s.bd) (h:inK s.bd x xs t e=true) (rm:Room A 0) (X:Conc c.ρ x dx) (Y:ConcD c.ρ xs ds) (rx:Rd c.wo.params w σ.heap dx u) (D:DictAt c.wo.params w σ.heap a ds)
  (ht:t=true->∀tk,Q (.bool tt) {σ with toks:=tk}) (he:e=true->∀tk,Q (.bool ff) {σ with toks:=tk}):wpAny (model c.prog c.wo) A (compareOp op u (.ref a)) Q E σ:=by
 unfold inK at h
 rw[Bool.and_eq_true] at h
 have hq:=(keyA_conc x).1 6 dx h.1 X
 have d:=findD_dec B X hq Y D.keys h.2
 have hu:=rm.units
 have go:∀tk,Q (.bool (if (getK dx ds).isSome then tt else ff)) {σ with toks:=tk}:=λtk=>by
  cases q:getK dx ds with
  |some v=>obtain ⟨_,_,z⟩:=d.1 v q;exact ht z tk
  |none=>exact he (d.2 q) tk
 rcases hP with ⟨rfl,rfl,rfl⟩|⟨rfl,rfl,rfl⟩
 · show wpAny _ A (do return .bool (← contains (.ref a) u)) Q E σ
   refine wpAny_bind (contains_key D (by omega) hq rx λtk=>wpAny_pure ?_)
   have:=go tk
   revert this;cases (getK dx ds).isSome<;>exact id
 · show wpAny _ A (do return .bool (!(← contains (.ref a) u))) Q E σ
   refine wpAny_bind (contains_key D (by omega) hq rx λtk=>wpAny_pure ?_)
   have:=go tk
   revert this;cases (getK dx ds).isSome<;>exact id
theorem soundC_in' {op:CmpOp} {tt ff:Bool} (hP:op=.In∧tt=true∧ff=false∨op=.NotIn∧tt=false∧ff=true) {f:Fm} {w:Wd} {s:St} {σ:Shared} {A:Around} {Q:Value->Shared->Prop} {E:Value->Shared->Prop} {x y:AV} {dx dy:CD} {u v:Value} {t e:Bool}
  (h:cIn x y s t e=true) (rel:Rel c f w s σ) (rm:Room A 0) (X:Conc c.ρ x dx) (Y:Conc c.ρ y dy) (rx:Rd c.wo.params w σ.heap dx u) (ry:Rd c.wo.params w σ.heap dy v)
  (ht:t=true->∀tk,Q (.bool tt) {σ with toks:=tk}) (he:e=true->∀tk,Q (.bool ff) {σ with toks:=tk}):wpAny (model c.prog c.wo) A (compareOp op u v) Q E σ:=by
 cases Y with
 |tup Y=>cases ry with|tup ho hc hd nx rs=>exact inS_true hP rel.bd h rm X Y rx ho (.inr hc) hd rs ht he
 |lst Y=>cases ry with|lst ho hc hd nx rs=>exact inS_true hP rel.bd h rm X Y rx ho (.inl hc) hd rs ht he
 |dic Y=>cases ry with|dic ho ex hd nx re nd=>exact inK_true hP rel.bd h rm X Y rx ⟨_,_,_,ho,ex.1,hd,re,nd,ex.2,nx.2⟩ ht he
 |loc p=>
  cases ry with
  |loc hp=>
  obtain ⟨o,ho,h⟩:=HT.get_true (show HT.get p s.hp (λo=>AObj.rec (motive:=λU=>Bool) (λxs=>inS s.bd x xs t e) (λU xs=>inK s.bd x xs t e) (λU U=>false) o)=true from h)
  obtain ⟨a',b',he',_,_,O⟩:=rel.obj p _ ho
  rw[hp] at he'
  cases he'
  cases o with
  |list xs=>
   obtain ⟨ds,vs,n,rfl,g,C,r,z⟩:=O
   exact inS_true hP rel.bd h rm X C rx g (.inl rfl) rfl r ht he
  |dict ep kvs=>
   obtain ⟨ds,es,rfl,C,D⟩:=O
   exact inK_true hP rel.bd h rm X C rx D.get ht he
  |inst q kvs=>exact fF h
 |_=>exact fF h
theorem soundC_in:SoundC c .In cIn:=by
 intro f w s σ A Q E x y dx dy u v t e h rel rm X Y rx ry ht he
 exact soundC_in' (.inl ⟨rfl,rfl,rfl⟩) h rel rm X Y rx ry ht he
theorem soundC_ni:SoundC c .NotIn cNi:=by
 intro f w s σ A Q E x y dx dy u v t e h rel rm X Y rx ry ht he
 exact soundC_in' (.inr ⟨rfl,rfl,rfl⟩) (show cIn x y s e t=true from h) rel rm X Y rx ry he ht
end
noncomputable def plainIx (e:Expr):Bool:=onSlice e (λU=>true) λU U U U=>false
theorem subscripted_plain {sl:Expr} {o i:Value} (h:plainIx sl=true):subscripted sl false o i=operate [o,i] (getItem o i):=by
 cases sl<;>first|rfl|cases h
section
variable {prog:Program} {wo:World} {A:Around} {E:Value->Shared->Prop} {σ:Shared}
theorem sub_tail {value slice:Expr} {o i:Value} {T id:String} {Q:Value->Shared->Prop} (hT:σ.TypeIs o T) (hl:typeLookup (.type T) "__getitem__"=pure (some (.builtin id)))
  (h:wpAny (model prog wo) A (getItem o i) Q E σ) (hs:subscripted slice false o i=operate [o,i] (getItem o i)∨subscripted slice false o i=operate [i,o] (getItem o i)):
  wpAny (model prog wo) A (subscriptTail value slice o i) Q E σ:=by
 unfold subscriptTail
 refine wpAny_bind ?_
 rw[getitemInPython_of_ne hT.not_modules]
 refine wpAny_bind (wpAny_specialOf hT hl ?_)
 have fin:wpAny (model prog wo) A (subscripted slice false o i) (λr s₃=>wpAny (model prog wo) A (letTemporaryGo value o r>>= λU=>pure r) Q E s₃) E σ:=by
  rcases hs with hs|hs<;>rw[hs]<;>exact wpAny_operating (wpAny_mono h (λr s₃ h₃=>wpAny_bind (wpAny_letTemporaryGo (wpAny_pure h₃))) λU U x=>x)
 first
  |exact wpAny_pure (wpAny_bind fin)
  |exact wpAny_bind (wpAny_pure (wpAny_bind fin))
  |exact wpAny_bind fin
end
theorem nthA_true {ρ:Rho} {k:AV->Bool} {xs:AV} {ds:List CD} {n:Nat} (X:ConcL ρ xs ds) (h:nthA xs n k=true):∃v d,ds[n]?=some d∧Conc ρ v d∧k v=true:=by
 induction X using ConcL.ind generalizing n with
 |nil=>exact fF h
 |cons C T ih=>cases n with
  |zero=>exact ⟨_,_,rfl,C,h⟩
  |succ n=>exact ih (n:=n) h
theorem RdL.get {Pm:Params} {w:Wd} {h:Heap} {ds:List CD} {vs:List Value} {n:Nat} {d:CD} (r:RdL Pm w h ds vs) (q:ds[n]?=some d):∃rv,vs[n]?=some rv∧Rd Pm w h d rv:=by
 induction r using RdL.ind generalizing n with
 |nil=>exact nS q
 |cons r _ ih=>cases n with
  |zero=>cases q;exact ⟨_,rfl,r⟩
  |succ n=>exact ih q
theorem revA_conc {ρ:Rho} {xs:AV} {ds:List CD} (C:ConcL ρ xs ds):ConcL ρ (revA xs) ds.reverse:=by
 have go:∀{xs:AV} {ds:List CD},ConcL ρ xs ds->∀{acc:AV} {es:List CD},ConcL ρ acc es->ConcL ρ (foldA (β:=AV->AV) (λa=>a) (λh U f a=>f (.cons h a)) xs acc) (ds.reverse++es):=by
  intro xs ds C
  induction xs generalizing ds with
  |nil=>cases (C);intro acc es h;exact h
  |cons a t _ ih=>
   cases C with
   |cons C T=>
   intro acc es h
   have:=ih T (.cons C h)
   rw[List.reverse_cons,List.append_assoc]
   exact this
  |_=>cases C
 have:=go C (acc:=.nil) .nil
 rw[List.append_nil] at this
 exact this
theorem takeA_conc {ρ:Rho} {xs:AV} {ds:List CD} (n:Nat) (X:ConcL ρ xs ds):ConcL ρ (takeA xs n) (ds.take n):=by
 induction X using ConcL.ind generalizing n with
 |nil=>rw[List.take_nil];exact .nil
 |cons C T ih=>cases n with
  |zero=>exact .nil
  |succ n=>exact .cons C (ih n)
theorem dropA_conc {ρ:Rho}:∀{xs:AV} {ds:List CD} (n:Nat),ConcL ρ xs ds->ConcL ρ (dropA xs n) (ds.drop n)
 |_,_,n,.nil=>by rw[List.drop_nil];exact .nil
 |_,_,0,.cons C T=>.cons C T
 |_,_,n+1,.cons C T=>dropA_conc n T
theorem takeB_conc {ρ:Rho} {xs:AV} {ds:List UInt8} (n:Nat) (X:ConcB ρ xs ds):ConcB ρ (takeA xs n) (ds.take n):=by
 induction X using ConcB.ind generalizing n with
 |nil=>rw[List.take_nil];exact .nil
 |cons C T ih=>cases n with
  |zero=>exact .nil
  |succ n=>exact .cons C (ih n)
theorem dropB_conc {ρ:Rho}:∀{xs:AV} {ds:List UInt8} (n:Nat),ConcB ρ xs ds->ConcB ρ (dropA xs n) (ds.drop n)
 |_,_,n,.nil=>by rw[List.drop_nil];exact .nil
 |_,_,0,.cons C T=>.cons C T
 |_,_,n+1,.cons C T=>dropB_conc n T
theorem RdL.take {Pm:Params} {w:Wd} {h:Heap}:∀{ds:List CD} {vs:List Value} (n:Nat),RdL Pm w h ds vs->RdL Pm w h (ds.take n) (vs.take n)
 |_,_,n,.nil=>by rw[List.take_nil,List.take_nil];exact .nil
 |_,_,0,.cons C T=>.nil
 |_,_,n+1,.cons C T=>.cons C (RdL.take n T)
theorem RdL.drop {Pm:Params} {w:Wd} {h:Heap}:∀{ds:List CD} {vs:List Value} (n:Nat),RdL Pm w h ds vs->RdL Pm w h (ds.drop n) (vs.drop n)
 |_,_,n,.nil=>by rw[List.drop_nil,List.drop_nil];exact .nil
 |_,_,0,.cons C T=>.cons C T
 |_,_,n+1,.cons C T=>RdL.drop n T
section
variable {c:Cf} {lvl:Nat} {x:Cx}
theorem atI_true {ρ:Rho} {xs x:AV} {ds:List CD} {dx:CD} {s:St} {k:K AV} (Y:ConcL ρ xs ds) (X:Conc ρ x dx) (h:atI xs x s k=true):
  ∃i v d,dx=.int i∧((0≤i∧ds[i.toNat]?=some d)∨(i<0∧ -(ds.length:Int)≤i∧ds[(i+ds.length).toNat]?=some d))∧Conc ρ v d∧k v s=true:=by
 unfold atI at h
 obtain ⟨i,rfl⟩:=asNum_isInt X h
 rcases asNum_int X h with ⟨a,n,e1,h⟩|⟨n,e1,h⟩|⟨lo,hi,x1,x2,h⟩|h
 · rcases ite_true h with ⟨q,h⟩|⟨_,h⟩
   · have q:=beq_true q
     subst q
     obtain ⟨v,d,h1,h2,h3⟩:=nthA_true Y h
     refine ⟨i,v,d,rfl,.inl ⟨?_,?_⟩,h2,h3⟩
     · rw[e1,ρ.zero];omega
     · have:i.toNat=n:=by rw[e1,ρ.zero];omega
       rw[this];exact h1
   · cases h
 · obtain ⟨v,d,h1,h2,h3⟩:=nthA_true (revA_conc Y) h
   have hn:n<ds.length:=by
    rcases Nat.lt_or_ge n ds.length with q|q
    · exact q
    · rw[List.getElem?_eq_none (by simpa using q)] at h1;cases h1
   rw[List.getElem?_reverse hn] at h1
   refine ⟨i,v,d,rfl,.inr ⟨by omega,by omega,?_⟩,h2,h3⟩
   have:(i+ds.length).toNat=ds.length-1-n:=by omega
   rw[this];exact h1
 · cases h
 · cases h
theorem item_true {f:Fm} {w:Wd} {s:St} {σ:Shared} {A:Around} {Q:Value->Shared->Prop} {E:Value->Shared->Prop} {k:K AV} {o x:AV} {dor dx:CD} {ov xv:Value} {value slice:Expr} (h:item o x s k=true) (rel:Rel c f w s σ) (rm:Room A 0)
  (O:Conc c.ρ o dor) (X:Conc c.ρ x dx) (ro:Rd c.wo.params w σ.heap dor ov) (rx:Rd c.wo.params w σ.heap dx xv) (hs:plainIx slice=true) (post:Post c f w σ.heap k Q):wpAny (model c.prog c.wo) A (subscriptTail value slice ov xv) Q E σ:=by
 have hu:=rm.units
 have tup:∀{xs:AV} {ds:List CD} {a:Addr} {ob:Obj} {vs:Array Value} {n:Nat},atI xs x s k=true->ConcL c.ρ xs ds->σ.heap.get? a=some ob->ob.cls=.type "tuple"->ob.data=.seq vs n->vs.size≤10000->RdL c.wo.params w σ.heap ds vs.toList->
   wpAny (model c.prog c.wo) A (subscriptTail value slice (.ref a) xv) Q E σ:=by
  intro xs ds a ob vs n h Y ho hc hd sz rs
  obtain ⟨i,v,d,rfl,hi,C,hk⟩:=atI_true Y X h
  have ht:IsTup σ.heap a vs:=⟨ob,ho,hc,n,hd⟩
  have len:vs.size=ds.length:=by have:=rs.length;simpa using this
  cases rx with
  |int _ t=>
  rcases hi with ⟨h0,hg⟩|⟨h0,h1,hg⟩
  · obtain ⟨rv,e,r⟩:=rs.get hg
    have hlt:i.toNat<vs.size:=by
     rcases Nat.lt_or_ge i.toNat vs.size with q|q
     · exact q
     · rw[List.getElem?_eq_none (by omega)] at hg;cases hg
    refine sub_tail ht.typeIs slot_tuple_getitem.lookup (getItem_tuple ht (j:=i.toNat) (x:=rv) (by omega) (by omega) ?_ (by simpa using e) (post.now hk rel C r)) (.inl (subscripted_plain hs))
    unfold seqIndex?
    simp only[show ¬i<0 by omega,if_false]
    rw[if_pos (by simp only[Bool.and_eq_true,decide_eq_true_eq];omega)]
  · obtain ⟨rv,e,r⟩:=rs.get hg
    refine sub_tail ht.typeIs slot_tuple_getitem.lookup (getItem_tuple ht (j:=(i+ds.length).toNat) (x:=rv) (by omega) (by omega) ?_ (by simpa using e) (post.now hk rel C r)) (.inl (subscripted_plain hs))
    rw[← len]
    exact seqIndex_neg h0 (by omega)
 have lst:∀{xs:AV} {ds:List CD} {a:Addr} {ob:Obj} {vs:Array Value} {n:Nat},atI xs x s k=true->ConcL c.ρ xs ds->σ.heap.get? a=some ob->ob.cls=.type "list"->ob.data=.seq vs n->vs.size≤10000->RdL c.wo.params w σ.heap ds vs.toList->
   wpAny (model c.prog c.wo) A (subscriptTail value slice (.ref a) xv) Q E σ:=by
  intro xs ds a ob vs n h Y ho hc hd sz rs
  obtain ⟨i,v,d,rfl,hi,C,hk⟩:=atI_true Y X h
  have ht:σ.heap.IsList a vs:=⟨ob,ho,hc,n,hd⟩
  have len:vs.size=ds.length:=by have:=rs.length;simpa using this
  cases rx with
  |int _ t=>
  rcases hi with ⟨h0,hg⟩|⟨h0,h1,hg⟩
  · obtain ⟨rv,e,r⟩:=rs.get hg
    have hlt:i.toNat<vs.size:=by
     rcases Nat.lt_or_ge i.toNat vs.size with q|q
     · exact q
     · rw[List.getElem?_eq_none (by omega)] at hg;cases hg
    exact sub_tail ht.typeIs slot_list_getitem.lookup (wpAny_getItem_list ht h0 (by omega) (by simpa using e) (post.now hk rel C r)) (.inl (subscripted_plain hs))
  · obtain ⟨rv,e,r⟩:=rs.get hg
    exact sub_tail ht.typeIs slot_list_getitem.lookup (wpAny_getItem_list_neg ht h0 (by omega) (by omega) (by rw[len];simpa using e) (post.now hk rel C r)) (.inl (subscripted_plain hs))
 have dct:∀{kvs:AV} {ds:List (CD×CD)} {a:Addr},and (keyA x 6) (findD s.bd x kvs (λv=>k v s) false)=true->ConcD c.ρ kvs ds->DictAt c.wo.params w σ.heap a ds->wpAny (model c.prog c.wo) A (subscriptTail value slice (.ref a) xv) Q E σ:=by
  intro kvs ds a h Y D
  rw[Bool.and_eq_true] at h
  have hq:=(keyA_conc x).1 6 dx h.1 X
  have d:=findD_dec rel.bd X hq Y D.keys h.2
  cases q:getK dx ds with
  |none=>exact nomatch d.2 q
  |some u=>
   obtain ⟨v,C,hk⟩:=d.1 u q
   exact sub_tail D.typeIs slot_dict_getitem.lookup (getItem_key D (by omega) hq rx q λrv tk r=>post v s w _ u rv hk rel.toks (.refl _ _) C r) (.inl (subscripted_plain hs))
 cases O with
 |tup Y=>cases ro with|tup ho hc hd nx rs=>exact tup h Y ho hc hd nx.2 rs
 |lst Y=>cases ro with|lst ho hc hd nx rs=>exact lst h Y ho hc hd nx.2 rs
 |dic Y=>cases ro with|dic ho ex hd nx re nd=>exact dct h Y ⟨_,_,_,ho,ex.1,hd,re,nd,ex.2,nx.2⟩
 |loc p=>
  cases ro with
  |loc hp=>
  obtain ⟨ob,ho,h⟩:=HT.get_true (show HT.get p s.hp (λo=>AObj.rec (motive:=λU=>Bool) (λxs=>atI xs x s k) (λU xs=>and (keyA x 6) (findD s.bd x xs (λv=>k v s) false)) (λU U=>false) o)=true from h)
  obtain ⟨a',b',he',_,_,O⟩:=rel.obj p _ ho
  rw[hp] at he'
  cases he'
  cases ob with
  |list xs=>
   obtain ⟨ds,vs,n,rfl,g,C,r,z⟩:=O
   exact lst h C g rfl rfl z r
  |dict ep kvs=>
   obtain ⟨ds,es,rfl,C,D⟩:=O
   exact dct h C D.get
  |inst q kvs=>exact fF h
 |_=>exact fF h
theorem sound_idx {value slice:Expr} {a b:C} {pos:Pos} (L:SoundE c lvl x value a) (R:SoundE c lvl x slice b) (hs:plainIx slice=true):SoundE c lvl x (.Subscript value slice pos) (idx a b):=by
 intro f w s σ A Q E k fo h rel rm post
 refine Subscript_ (L f w s σ A _ E _ fo h rel rm ?_)
 intro v s1 w1 σ1 d1 rv1 e1 rel1 X1 C1 r1
 refine R f w1 s1 σ1 A _ E _ fo e1 rel1 rm ?_
 intro v2 s2 w2 σ2 d2 rv2 e2 rel2 X2 C2 r2
 exact item_true e2 rel2 (rm.down (Nat.zero_le _)) C1 C2 (r1.ext X2) r2 hs (post.ext (X1.trans X2))
end
section
variable {prog:Program} {wo:World} {A:Around} {E:Value->Shared->Prop} {σ:Shared}
theorem adjust_to (b n:Nat):Builtin.Slice.sliceAdjust none (some (b:Int)) 1 (n:Int)=(0,((min b n:Nat):Int)):=by
 unfold Builtin.Slice.sliceAdjust
 have h1:¬((1:Int)<0):=by omega
 have h2:¬((b:Int)<0):=by omega
 simp only[h1,h2,if_false]
 congr 1
 omega
theorem places_to (m:Nat):Builtin.Slice.slicePlaces 0 (m:Int) 1=m:=by
 unfold Builtin.Slice.slicePlaces
 have h1:(1:Int)>0:=by omega
 simp only[h1,if_true,Int.ediv_one]
 split<;>omega
theorem sliceApplied_to {sl:Addr} {b n:Nat} {u:Tok} {Q:Int×Int×Nat->Shared->Prop} (hs:σ.heap.IsSliceOf sl .none (.int b u) .none) (h:Q (0,1,min b n) σ):
  wpAny (model prog wo) A (Builtin.Slice.sliceApplied (.ref sl) (pure (n:Int))) Q E σ:=by
 obtain ⟨os,hos,hcs,hds⟩:=id hs
 unfold Builtin.Slice.sliceApplied Builtin.Slice.sliceFields
 refine wpAny_bind (wpAny_bind (wpAny_field hos hds (x:=.none) rfl (wpAny_bind (wpAny_field hos hds (x:=.int b u) rfl (wpAny_bind (wpAny_field hos hds (x:=.none) rfl (wpAny_pure ?_)))))))
 refine wpAny_bind (slicePart_none ?_)
 show wpAny _ _ (if ((1:Int)==0)=true then _ else _) _ _ σ
 rw[if_neg (by decide)]
 refine wpAny_bind (slicePart_none (wpAny_bind (slicePart_int (wpAny_bind (wpAny_pure ?_)))))
 show wpAny _ _ (match Builtin.Slice.sliceAdjust none (some (b:Int)) 1 (n:Int) with|(lo,hi)=>pure (lo,(1:Int),Builtin.Slice.slicePlaces lo hi 1)) _ _ σ
 rw[adjust_to b n]
 show wpAny _ _ (pure ((0:Int),(1:Int),Builtin.Slice.slicePlaces (0:Int) ((min b n:Nat):Int) 1)) _ _ σ
 rw[places_to]
 exact wpAny_pure h
theorem pick_to (xs:Array Value) (m:Nat):((List.range m).filterMap λ(k:Nat)=>xs[((0:Int)+(k:Int)*1).toNat]?).toArray=(xs.toList.take m).toArray:=by
 have e:(λ(k:Nat)=>xs[((0:Int)+(k:Int)*1).toNat]?)=λk=>xs[0+k]?:=by
  funext k
  have:((0:Int)+(k:Int)*1).toNat=0+k:=by omega
  rw[this]
 rw[e]
 have:=pick_run xs 0 m
 rw[List.filterMap_map] at this
 have e2:((λx=>xs[x]?)∘λx=>0+x)=λk=>xs[0+k]?:=rfl
 rw[e2] at this
 rw[this,List.drop_zero]
theorem getItem_tuple_to {t sl:Addr} {items:Array Value} {b:Nat} {u:Tok} {Q:Value->Shared->Prop} (ht:IsTup σ.heap t items) (hs:σ.heap.IsSliceOf sl .none (.int b u) .none)
  (h1:min b items.size=items.size->Q (.ref t) σ) (h2:Q (.ref σ.heap.objs.size) {σ with heap:=σ.heap.push {cls:=.type "tuple",data:=.seq (items.toList.take (min b items.size)).toArray}})
  (hsz:items.size≤sizeLine):wpAny (model prog wo) A (getItem (.ref t) (.ref sl)) Q E σ:=by
 have htake:sizeOk (.seq (items.toList.take (min b items.size)).toArray):=by
  show (items.toList.take (min b items.size)).toArray.size≤sizeLine
  rw[List.size_toArray,List.length_take,Array.length_toList]
  omega
 obtain ⟨os,hos,hcs,hds⟩:=id hs
 have hTs:σ.TypeIs (.ref sl) "slice":=⟨os,hos,hcs⟩
 unfold getItem
 try with_reducible refine wpAny_holding ?_
 first|refine wpAny_bind (wpAny_pure ?_)|skip
 refine wpAny_bind (wpAny_sequenceKey ht.typeIs (by decide) ?_)
 refine wpAny_bind (wpAny_callSpecial?_slot (name:=Str.ofString "__getitem__") ht.typeIs slot_tuple_getitem
  (wpAny_call_entry slot_tuple_getitem ht.typeIs entry_tuple_getitem ?_ (args_tuple_getitem _ _)))
 show wpAny _ _ (Builtin.Tuple.tupleItemsOf (.ref t)>>= _) _ _ σ
 refine wpAny_bind (tupleItemsOf_ ht ?_)
 refine wpAny_bind (wpAny_typeOf hTs ?_)
 rw[if_pos (by decide)]
 refine wpAny_bind (sliceApplied_to hs ?_)
 have fin:wpAny (model prog wo) A.in1 (Builtin.Tuple.tupleExact ((List.range (min b items.size)).filterMap λ(k:Nat)=>items[((0:Int)+(k:Int)*1).toNat]?).toArray>>= λr=>ret r) (λr s'=>∃q,r=.done (.ret q)∧wpAny (model prog wo) A (pure q) Q E s') E σ:=by
  rw[pick_to items]
  exact wpAny_bind (m:=Builtin.Tuple.tupleExact _) (wpAny_newObj_type (wpAny_pure ⟨_,rfl,wpAny_pure h2⟩) htake)
 by_cases hq:min b items.size=items.size
 · show wpAny _ _ (if ((0:Int)==0&&(1:Int)==1&&(min b items.size)==items.size)=true then _ else _) _ _ σ
   rw[if_pos (by simp only[beq_self_eq_true,Bool.true_and];simpa using hq)]
   refine wpAny_bind (m:=Builtin.Tuple.tupleIsExact _) (wpAny_bind (wpAny_typeOf ht.typeIs (wpAny_pure ?_)))
   rw[if_pos (by rfl)]
   refine wpAny_bind (wpAny_rule ?_)
   exact wpAny_bind (wpAny_pure (wpAny_pure ⟨_,rfl,wpAny_pure (h1 hq)⟩))
 · show wpAny _ _ (if ((0:Int)==0&&(1:Int)==1&&(min b items.size)==items.size)=true then _ else _) _ _ σ
   rw[if_neg (by simp only[beq_self_eq_true,Bool.true_and];simpa using hq)]
   exact fin
theorem getItem_bytes_slice {b:Array UInt8} {t:Tok} {a:Addr} {l u:Value} {lo hi:Option Int} {Q:Value->Shared->Prop} (hl:IsPart l lo) (hu:IsPart u hi) (hs:σ.heap.IsSliceOf a l u .none) (hz:b.size≤sizeLine)
  (h:∀t' k,Q (.bytes (KBy.picked b lo hi) t') {σ with toks:=k}):wpAny (model prog wo) A (getItem (.bytes b t) (.ref a)) Q E σ:=
 getItem_meets (typeIs_bytes _ _ _) (by decide) FB.slot_bytes_getitem FB.entry_bytes_getitem (FB.args_bytes_getitem_2 _ _) (KBc.meets_slice2 b t _ hl hu) ⟨hs,Nat.le_trans (KBc.size_picked_le b lo hi) hz,h⟩
end
section
variable {c:Cf} {lvl:Nat} {x:Cx}
noncomputable def part (to:Bool) {α:Type} (n:Nat) (l:List α):List α:=if to then l.take n else l.drop n
def partA (to:Bool):AV->Nat->AV:=if to then takeA else dropA
theorem partA_conc {ρ:Rho} {to:Bool} {xs:AV} {ds:List CD} {n:Nat} (C:ConcL ρ xs ds):ConcL ρ (partA to xs n) (part to n ds):=by
 cases to
 · exact dropA_conc n C
 · exact takeA_conc n C
theorem partB_conc {ρ:Rho} {to:Bool} {xs:AV} {ds:List UInt8} {n:Nat} (C:ConcB ρ xs ds):ConcB ρ (partA to xs n) (part to n ds):=by
 cases to
 · exact dropB_conc n C
 · exact takeB_conc n C
theorem RdL.part {Pm:Params} {w:Wd} {h:Heap} {to:Bool} {ds:List CD} {vs:List Value} {n:Nat} (r:RdL Pm w h ds vs):RdL Pm w h (Mine.part to n ds) (Mine.part to n vs):=by
 cases to
 · exact r.drop n
 · exact r.take n
theorem part_len {to:Bool} {α:Type} {n:Nat} {l:List α}:(part to n l).length≤l.length:=by
 cases to<;>simp[part];omega
noncomputable def slLo (to:Bool) (n:Nat):Option Int:=if to then none else some (n:Int)
noncomputable def slHi (to:Bool) (n:Nat):Option Int:=if to then some (n:Int) else none
theorem pick_part {α:Type} (l:List α) (to:Bool) (n:Nat):(l.drop ((slLo to n).elim 0 (clipAt l.length))).take ((slHi to n).elim l.length (clipAt l.length)-(slLo to n).elim 0 (clipAt l.length))=part to n l:=by
 cases to
 · show (l.drop (clipAt l.length n)).take (l.length-clipAt l.length n)=l.drop n
   rw[clipAt_nat]
   rcases Nat.le_total n l.length with q|q
   · rw[Nat.min_eq_left q,List.take_of_length_le (by simp)]
   · rw[Nat.min_eq_right q,Nat.sub_self,List.take_zero,List.drop_eq_nil_of_le q]
 · show (l.drop 0).take (clipAt l.length n-0)=l.take n
   rw[clipAt_nat,List.drop_zero,Nat.sub_zero]
   rcases Nat.le_total n l.length with q|q
   · rw[Nat.min_eq_left q]
   · rw[Nat.min_eq_right q,List.take_of_length_le (Nat.le_refl _),List.take_of_length_le q]
theorem ok4_true {n:Nat} {k:Bool} (h:ok4 n k=true):n≤10000∧k=true:=by
 rcases ite_true (show ite (Nat.ble n 10000) k false=true from h) with ⟨q,h⟩|⟨_,h⟩
 · exact ⟨ble_true q,h⟩
 · cases h
theorem lenB_conc {ρ:Rho} {v:AV} {ds:List UInt8} (X:ConcB ρ v ds):lenA v=ds.length:=ConcB.ind rfl (λU U e=>congrArg (·+1) e) X
set_option tactic.hygienic true in
theorem cut_true {f:Fm} {w:Wd} {s:St} {σ:Shared} {A:Around} {Q:Value->Shared->Prop} {E:Value->Shared->Prop} {k:K AV} {o:AV} {dor:CD} {ov:Value} {value slice:Expr} {to:Bool} {n:Nat} {lv uv:Value} {g:Nat->Nat->Bool}
  (h:AV.rec (motive:=λU=>Bool) false (λU=>false) (λU=>false) (λU=>false) (λU U=>false) (λU U=>false) false (λU=>false) false (λxs U=>ok4 (lenA xs) (k (.byt (partA to xs n)) s)) (λxs U=>ite (g n (lenA xs)) (k (.tup (partA to xs n)) s) false) (λxs U=>k (.lst (partA to xs n)) s) (λU U=>false)
    (λi=>HT.get i s.hp λo=>isList o λxs=>k (.lst (partA to xs n)) s) false (λU U U U=>false) (λU U U U U U=>false) o=true)
  (hg:to=false->∀n m,g n m=true->1≤n∧n≤m) (hl:IsPart lv (slLo to n)) (hu:IsPart uv (slHi to n))
  (rel:Rel c f w s σ) (rm:Room A 0) (O:Conc c.ρ o dor) (ro:Rd c.wo.params w σ.heap dor ov) (hs:∀o i,subscripted slice false o i=operate [i,o] (getItem o i)) (post:Post c f w σ.heap k Q):
  wpAny (model c.prog c.wo) A (subscriptTail value slice ov (.ref σ.heap.objs.size)) Q E {σ with heap:=σ.heap.push {cls:=.type "slice",data:=.fields #[lv,uv,.none]}}:=by
 have sl10:(10000:Nat)≤sizeLine:=by decide
 have kp:∀(a:Addr) (ob:Obj),σ.heap.get? a=some ob->(σ.heap.push {cls:=.type "slice",data:=.fields #[lv,uv,.none]}).get? a=some ob:=λa ob e=>Heap.get?_push_of_some _ e
 have rel':=rel.grow (tk:=σ.toks) kp
 have X1:Ext w σ.heap w (σ.heap.push {cls:=.type "slice",data:=.fields #[lv,uv,.none]}):=.grow kp
 have hsl:(σ.heap.push {cls:=.type "slice",data:=.fields #[lv,uv,.none]}).IsSliceOf σ.heap.objs.size lv uv .none:=Heap.IsSliceOf.new ..
 have lst:∀{xs:AV} {ds:List CD} {a:Addr} {ob:Obj} {vs:Array Value} {m:Nat},k (.lst (partA to xs n)) s=true->ConcL c.ρ xs ds->σ.heap.get? a=some ob->ob.cls=.type "list"->ob.data=.seq vs m->vs.size≤10000->RdL c.wo.params w σ.heap ds vs.toList->
   wpAny (model c.prog c.wo) A (subscriptTail value slice (.ref a) (.ref σ.heap.objs.size)) Q E {σ with heap:=σ.heap.push {cls:=.type "slice",data:=.fields #[lv,uv,.none]}}:=by
  intro xs ds a ob vs m h Y ho hc hd sz rs
  have ht:(σ.heap.push {cls:=.type "slice",data:=.fields #[lv,uv,.none]}).IsList a vs:=⟨ob,kp _ _ ho,hc,m,hd⟩
  refine sub_tail (σ:={σ with heap:=σ.heap.push {cls:=.type "slice",data:=.fields #[lv,uv,.none]}}) ht.typeIs slot_list_getitem.lookup (wpAny_getItem_list_slice ht hsl hl hu .none (by simp) ?_ (Nat.le_trans sz sl10)) (.inr (hs _ _))
  have e:slicePick vs (slLo to n) (slHi to n) none=(part to n vs.toList).toArray:=by
   rw[slicePick_plain]
   have:=pick_part vs.toList to n
   rw[Array.length_toList] at this
   rw[this]
  rw[e]
  have kp2:∀(a':Addr) (ob:Obj),(σ.heap.push {cls:=.type "slice",data:=.fields #[lv,uv,.none]}).get? a'=some ob->((σ.heap.push {cls:=.type "slice",data:=.fields #[lv,uv,.none]}).push {cls:=.type "list",data:=.seq (part to n vs.toList).toArray}).get? a'=some ob:=λa ob e=>Heap.get?_push_of_some _ e
  have X2:=X1.trans (.grow kp2)
  refine post _ s w _ (.lst (part to n ds)) _ h (rel'.grow (tk:=σ.toks) kp2) X2 (.lst (partA_conc Y)) (.lst (Heap.get?_push_size _ rfl) rfl rfl ⟨rel'.freshX,?_⟩ ?_ rfl)
  · have:=part_len (to:=to) (n:=n) (l:=vs.toList)
    have e2:vs.toList.length=vs.size:=Array.length_toList
    rw[List.size_toArray];omega
  · simpa using (rs.ext X2).part
 cases O with
 |byt Y=>
  cases ro with
  |bytes b t=>
  rename_i xs
  obtain ⟨sz,h⟩:=ok4_true (show ok4 (lenA xs) (k (.byt (partA to xs n)) s)=true from h)
  rw[lenB_conc Y,Array.length_toList] at sz
  refine sub_tail (σ:={σ with heap:=σ.heap.push {cls:=.type "slice",data:=.fields #[lv,uv,.none]}}) (typeIs_bytes _ _ _) FB.slot_bytes_getitem.lookup (getItem_bytes_slice hl hu hsl (Nat.le_trans sz sl10) λt' tk=>?_) (.inr (hs _ _))
  have e:(KBy.picked b (slLo to n) (slHi to n))=(part to n b.toList).toArray:=by
   rw[KBc.picked_eq]
   have:=pick_part b.toList to n
   rw[Array.length_toList] at this
   rw[this]
  rw[e]
  refine post _ s w _ (.bytes (part to n b.toList).toArray.toList) _ h (rel.grow (tk:=tk) kp) X1 (.byt ?_) (.bytes _ _)
  simpa using partB_conc Y
 |tup Y=>
  cases ro with
  |tup ho hc hd nx rs=>
  rename_i xs ds a ob vs m
  rcases ite_true (show ite (g n (lenA xs)) (k (.tup (partA to xs n)) s) false=true from h) with ⟨q,h⟩|⟨_,h⟩
  case inr=>cases h
  have ht:IsTup (σ.heap.push {cls:=.type "slice",data:=.fields #[lv,uv,.none]}) a vs:=⟨ob,kp _ _ ho,hc,m,hd⟩
  have e2:vs.toList.length=vs.size:=Array.length_toList
  have len:vs.size=ds.length:=by have:=rs.length;simpa using this
  have fin:∀{l:List Value},l=part to n vs.toList->Q (.ref (σ.heap.push {cls:=.type "slice",data:=.fields #[lv,uv,.none]}).objs.size) {σ with heap:=(σ.heap.push {cls:=.type "slice",data:=.fields #[lv,uv,.none]}).push {cls:=.type "tuple",data:=.seq l.toArray}}:=by
   intro l e
   subst e
   have kp2:∀(a':Addr) (ob:Obj),(σ.heap.push {cls:=.type "slice",data:=.fields #[lv,uv,.none]}).get? a'=some ob->((σ.heap.push {cls:=.type "slice",data:=.fields #[lv,uv,.none]}).push {cls:=.type "tuple",data:=.seq (part to n vs.toList).toArray}).get? a'=some ob:=λa ob e=>Heap.get?_push_of_some _ e
   have X2:=X1.trans (.grow kp2)
   refine post _ s w _ (.tup (part to n ds)) _ h (rel'.grow (tk:=σ.toks) kp2) X2 (.tup (partA_conc Y)) (.tup (Heap.get?_push_size _ rfl) rfl rfl ⟨rel'.freshX,?_⟩ ?_)
   · have:=part_len (to:=to) (n:=n) (l:=vs.toList)
     have:=nx.2
     rw[List.size_toArray];omega
   · simpa using (rs.ext X2).part
  cases to with
  |false=>
   obtain ⟨q1,q2⟩:=hg rfl _ _ q
   rw[lenA_conc Y] at q2
   cases hl with
   |int _ t=>
   cases hu with
   |none=>
   exact sub_tail (σ:={σ with heap:=σ.heap.push {cls:=.type "slice",data:=.fields #[.int (n:Int) t,.none,.none]}}) ht.typeIs slot_tuple_getitem.lookup (getItem_tuple_from ht hsl q1 (by omega) (fin rfl) (Nat.le_trans nx.2 sl10)) (.inr (hs _ _))
  |true=>
   cases hl with
   |none=>
   cases hu with
   |int _ t=>
   refine sub_tail (σ:={σ with heap:=σ.heap.push {cls:=.type "slice",data:=.fields #[.none,.int (n:Int) t,.none]}}) ht.typeIs slot_tuple_getitem.lookup (getItem_tuple_to ht hsl (λe=>?_) ?_ (Nat.le_trans nx.2 sl10)) (.inr (hs _ _))
   · have e3:part true n ds=ds:=List.take_of_length_le (by omega)
     refine post _ s w _ (.tup ds) _ h rel' X1 ?_ (.tup (kp _ _ ho) hc hd nx (rs.ext X1))
     have:=partA_conc (to:=true) (n:=n) Y
     rw[e3] at this
     exact .tup this
   · refine fin ?_
     show vs.toList.take (min n vs.size)=vs.toList.take n
     rcases Nat.le_total n vs.size with q|q
     · rw[Nat.min_eq_left q]
     · rw[Nat.min_eq_right q,List.take_of_length_le (by omega),List.take_of_length_le (by omega)]
 |lst Y=>cases ro with|lst ho hc hd nx rs=>exact lst h Y ho hc hd nx.2 rs
 |loc p=>
  cases ro with
  |loc hp=>
  obtain ⟨ob,ho,h⟩:=HT.get_true (show HT.get p s.hp (λo=>isList o λxs=>k (.lst (partA to xs n)) s)=true from h)
  obtain ⟨xs,rfl,h⟩:=isList_true h
  obtain ⟨a',b',he',_,_,O⟩:=rel.obj p _ ho
  rw[hp] at he'
  cases he'
  obtain ⟨ds,vs,m,rfl,g,C,r,z⟩:=O
  exact lst h C g rfl rfl z r
 |_=>exact fF h
theorem sound_cutTo {value u:Expr} {a b:C} {p pos:Pos} (L:SoundE c lvl x value a) (R:SoundE c lvl x u b):SoundE c lvl x (.Subscript value (.Slice none (some u) none p) pos) (cutTo a b):=by
 intro f w s σ A Q E k fo h rel rm post
 refine Subscript_ (L f w s σ A _ E _ fo h rel rm ?_)
 intro v s1 w1 σ1 d1 rv1 e1 rel1 X1 C1 r1
 refine wpAny_Slice ?_
 rw[evalPart_none,evalPart_some]
 refine wpAny_pure (R f w1 s1 σ1 A _ E _ fo e1 rel1 rm ?_)
 intro v2 s2 w2 σ2 d2 rv2 e2 rel2 X2 C2 r2
 obtain ⟨n,rfl,e2⟩:=isNat_true e2
 cases C2
 cases r2 with
 |int _ t=>
 exact wpAny_pure (cut_true (to:=true) (n:=n) (g:=λU U=>true) e2 (λe=>nomatch e) .none (.int _ t) rel2 (rm.down (Nat.zero_le _)) C1 (r1.ext X2) (λU U=>rfl) (post.ext (X1.trans X2)))
theorem sound_cutFrom {value u:Expr} {a b:C} {p pos:Pos} (L:SoundE c lvl x value a) (R:SoundE c lvl x u b):SoundE c lvl x (.Subscript value (.Slice (some u) none none p) pos) (cutFrom a b):=by
 intro f w s σ A Q E k fo h rel rm post
 refine Subscript_ (L f w s σ A _ E _ fo h rel rm ?_)
 intro v s1 w1 σ1 d1 rv1 e1 rel1 X1 C1 r1
 refine wpAny_Slice ?_
 rw[evalPart_none,evalPart_some]
 refine R f w1 s1 σ1 A _ E _ fo e1 rel1 rm ?_
 intro v2 s2 w2 σ2 d2 rv2 e2 rel2 X2 C2 r2
 obtain ⟨n,rfl,e2⟩:=isNat_true e2
 cases C2
 cases r2 with
 |int _ t=>
 refine wpAny_pure (wpAny_pure (cut_true (to:=false) (n:=n) (g:=λn m=>and (Nat.ble 1 n) (Nat.ble n m)) e2 (λU n m q=>?_) (.int _ t) .none rel2 (rm.down (Nat.zero_le _)) C1 (r1.ext X2) (λU U=>rfl) (post.ext (X1.trans X2))))
 rw[Bool.and_eq_true] at q
 exact ⟨ble_true q.1,ble_true q.2⟩
end
section
section
variable {c:Cf} {f:Fm} {w:Wd} {s:St} {σ:Shared}
theorem Rel.world (R:Rel c f w s σ) {w':Wd} {h':Heap} {tk:Nat} {nx:P} (E:ExtR w σ.heap w' h') (kW:∀a,w.W a->h'.get? a=σ.heap.get? a) (W:∀a,w.W a->w'.W a) (base:∀a o,c.base.get? a=some o->h'.get? a=some o∧¬w'.X a)
  (dom:∀a,w'.X a->∃o,h'.get? a=some o) (hnx:∀p x,w'.eta p=some x->p.toNat<nx.toNat):Rel c f w' ⟨s.vars,s.cvars,s.hp,nx,s.bd⟩ {σ with heap:=h',toks:=tk}:=by
 have ko:∀x,f.Own x->h'.get? x=σ.heap.get? x:=λx hx=>kW x (R.own x hx)
 have kl:∀o,σ.heap.get? f.env.locals=some o->h'.get? f.env.locals=some o:=λo e=>(ko _ (.inl rfl)).trans e
 have kc:∀x∈f.env.cells,∀o,σ.heap.get? x.2=some o->h'.get? x.2=some o:=λx hx o e=>(ko _ (.inr (.inl ⟨x,hx,rfl⟩))).trans e
 have kk:∀s c a,f.comp=some (s,c,a)->∀o,σ.heap.get? a=some o->h'.get? a=some o:=λs c a q o e=>(ko _ (.inr (.inr ⟨s,c,q⟩))).trans e
 exact {
  bd:=R.bd
  vars:=λx v e=>(R.vars x v e).extR E λn u H=>H.keep kl kc
  cvars:=λx v e=>(R.cvars x v e).extR E λn u H=>H.keep kk
  ns:=by obtain ⟨m,hn⟩:=R.ns;exact ⟨m,hn.at' kl⟩
  cells:=λx hx=>by obtain ⟨v,o,ho,hd⟩:=R.cells x hx;exact ⟨v,o,kc x hx o ho,hd⟩
  cellNe:=R.cellNe
  cellInj:=R.cellInj
  comp:=λs c a e=>by obtain ⟨⟨m,hm⟩,r⟩:=R.comp s c a e;exact ⟨⟨m,hm.at' (kk s c a e)⟩,r⟩
  own:=λa h=>W a (R.own a h)
  obj:=λp o e=>by
   obtain ⟨a,b,h1,h2,h3,O⟩:=R.obj p o e
   exact ⟨a,b,E.eta _ _ h1,W b h2,h3,O.keepR E (kW b h2) (W b h2)⟩
  inj:=λp q o o' a a' b e1 e2 h1 h2=>by
   obtain ⟨a1,b1,g1,_⟩:=R.obj p o e1
   obtain ⟨a2,b2,g2,_⟩:=R.obj q o' e2
   have:=E.eta _ _ g1
   rw[h1] at this;cases this
   have:=E.eta _ _ g2
   rw[h2] at this;cases this
   exact R.inj p q o o' _ _ _ e1 e2 g1 g2
  nx:=hnx
  base:=base
  dom:=dom
  rest:=by obtain ⟨h,tk',e⟩:=R.rest;exact ⟨h',tk,by rw[e]⟩
  pin:=λp a e=>E.eta _ _ (R.pin p a e)}
open Classical
noncomputable def Wd.shield (w:Wd) (b:Addr):Wd:=⟨w.eta,λx=>w.X x∨x=b,w.W,λa h=>.inl (w.sub a h)⟩
theorem Rel.shield (R:Rel c f w s σ) {b:Addr} {h':Heap} {tk:Nat} (hb:σ.heap.get? b=none) (k:∀a o,σ.heap.get? a=some o->h'.get? a=some o) (hb':∃o,h'.get? b=some o):
  Rel c f (w.shield b) s {σ with heap:=h',toks:=tk}∧Ext w σ.heap (w.shield b) h':=by
 have ne:∀a o,σ.heap.get? a=some o->a≠b:=λa o e q=>by rw[q,hb] at e;cases e
 refine ⟨R.world (nx:=s.nx) ⟨λU U x=>x,λa o e U=>k a o e,λa o e q=>q.elim id λz=>absurd z (ne a o e)⟩ (λa h=>?_) (λa h=>h) (λa o e=>?_) (λa h=>?_) R.nx,
  ⟨λU U x=>x,λa o e U=>k a o e,λa o e q=>q.elim id λz=>absurd z (ne a o e),λU U U x=>x,λa o e=>⟨o,k a o e⟩,λU x=>.inl x⟩⟩
 · obtain ⟨o,e⟩:=R.dom a (w.sub a h)
   rw[e];exact k a o e
 · have:=R.base a o e
   exact ⟨k a o this.1,λq=>q.elim this.2 λz=>ne a o this.1 z⟩
 · exact h.elim (λh=>by obtain ⟨o,e⟩:=R.dom a h;exact ⟨o,k a o e⟩) λq=>q▸hb'
noncomputable def Wd.bare (w:Wd) (b:Addr) (hb:¬w.W b):Wd:=⟨w.eta,λx=>w.X x∧x≠b,w.W,λa h=>⟨w.sub a h,λq=>hb (q▸h)⟩⟩
theorem Rel.bare (R:Rel c f w s σ) {b:Addr} (hb:¬w.W b):Rel c f (w.bare b hb) s σ∧ExtR w σ.heap (w.bare b hb) σ.heap:=by
 have X:ExtR w σ.heap (w.bare b hb) σ.heap:=⟨λU U x=>x,λU U e U=>e,λU U U q=>q.1⟩
 exact ⟨R.world (nx:=s.nx) (h':=σ.heap) (tk:=σ.toks) X (λU U=>rfl) (λU h=>h) (λa o e=>⟨(R.base a o e).1,λq=>(R.base a o e).2 q.1⟩) (λa h=>R.dom a h.1) R.nx,X⟩
theorem Ext.bare {w₀:Wd} {h₀ h:Heap} (X:Ext w₀ h₀ w h) {b:Addr} (hb:¬w.W b) (h0:h₀.get? b=none) (d:∀a,w₀.X a->∃o,h₀.get? a=some o):Ext w₀ h₀ (w.bare b hb) h where
 eta:=X.eta
 keep:=X.keep
 freshX a o e q:=X.freshX a o e q.1
 freshW:=X.freshW
 stay:=X.stay
 mono a h:=⟨X.mono a h,λq=>by obtain ⟨o,e⟩:=d a h;rw[q,h0] at e;cases e⟩
theorem Rel.side (R:Rel c f w s σ) {b:Addr} {h':Heap} {tk:Nat} (hX:w.X b) (hW:¬w.W b) (sb:Heap.SameBut b σ.heap h') (hb':∃o,h'.get? b=some o):
  Rel c f w s {σ with heap:=h',toks:=tk}∧ExtR w σ.heap w h':=by
 have X:ExtR w σ.heap w h':=⟨λU U x=>x,λa o e n=>(sb.2 a λq=>n (q▸hX)).trans e,λU U U q=>q⟩
 refine ⟨R.world (nx:=s.nx) X (λa h=>sb.2 a λq=>hW (q▸h)) (λU h=>h) (λa o e=>?_) (λa h=>?_) R.nx,X⟩
 · have:=R.base a o e
   exact ⟨(sb.2 a λq=>this.2 (q▸hX)).trans this.1,this.2⟩
 · by_cases q:a=b
   · exact q▸hb'
   · obtain ⟨o,e⟩:=R.dom a h;exact ⟨o,(sb.2 a q).trans e⟩
theorem Ext.side {w₀:Wd} {h₀ h h':Heap} (X:Ext w₀ h₀ w h) {b:Addr} (h0:h₀.get? b=none) (sb:Heap.SameBut b h h'):Ext w₀ h₀ w h' where
 eta:=X.eta
 keep a o e n:=(sb.2 a λq=>by rw[q,h0] at e;cases e).trans (X.keep a o e n)
 freshX:=X.freshX
 freshW:=X.freshW
 stay a o e:=by obtain ⟨o',e'⟩:=X.stay a o e;exact ⟨o',(sb.2 a λq=>by rw[q,h0] at e;cases e).trans e'⟩
 mono:=X.mono
theorem Ext.shielded {w':Wd} {h h':Heap} (X:Ext w h w' h') {b:Addr} {o:Obj} (e:h.get? b=some o) (hX:w.X b) (hW:¬w.W b):h'.get? b=some o∧w'.X b∧¬w'.W b:=
 ⟨X.keep b o e hW,X.mono b hX,λq=>hW (X.freshW b o e q)⟩
def Wd.open_ (w:Wd) (p:P) (b:Addr) (hX:w.X b):Wd:=⟨λq=>if q=p then some (b,b) else w.eta q,w.X,λx=>w.W x∨x=b,λa h=>h.elim (w.sub a) λq=>q▸hX⟩
theorem Rel.open_ (R:Rel c f w s σ) {b:Addr} {o:AObj} (hX:w.X b) (hW:¬w.W b) (O:ObjAt c (w.open_ s.nx b hX) o b b σ.heap):
  Rel c f (w.open_ s.nx b hX) ⟨s.vars,s.cvars,HT.put s.nx o s.hp,P.succ s.nx,s.bd⟩ σ∧ExtR w σ.heap (w.open_ s.nx b hX) σ.heap:=by
 have hn:=R.nxNone
 have etaNew:(w.open_ s.nx b hX).eta s.nx=some (b,b):=by show (if s.nx=s.nx then _ else _)=_;rw[if_pos rfl]
 have X:ExtR w σ.heap (w.open_ s.nx b hX) σ.heap:=⟨λq x e=>by
  have:q≠s.nx:=λy=>by rw[y,hn] at e;cases e
  show (if q=s.nx then _ else _)=_
  rw[if_neg this];exact e,λU U e U=>e,λU U U q=>q⟩
 have R':=R.world (nx:=P.succ s.nx) (h':=σ.heap) (tk:=σ.toks) X (λU U=>rfl) (λU h=>.inl h) R.base R.dom (λq x e=>by
  rw[P.succ_toNat]
  by_cases hq:q=s.nx
  · rw[hq];exact Nat.lt_succ_self _
  · have:(if q=s.nx then some (b,b) else w.eta q)=some x:=e
    rw[if_neg hq] at this
    exact Nat.lt_succ_of_lt (R.nx q x this))
 have old:∀q x,HT.find q (HT.put s.nx o s.hp)=some x->(q=s.nx∧x=o)∨(q≠s.nx∧HT.find q s.hp=some x):=λq x e=>by
  by_cases hq:q=s.nx
  · subst hq
    rw[HT.find_put] at e
    cases e
    exact .inl ⟨rfl,rfl⟩
  · rw[HT.find_put_ne o _ _ _ hq] at e
    exact .inr ⟨hq,e⟩
 have body:∀q x a' b',HT.find q s.hp=some x->(w.open_ s.nx b hX).eta q=some (a',b')->b'≠b:=λq x a' b' e h z=>by
  obtain ⟨a3,b3,g1,g2,_⟩:=R.obj q x e
  rw[X.eta _ _ g1] at h
  cases h
  exact hW (z▸g2)
 refine ⟨{R' with
  obj:=λq x e=>?_
  inj:=λq r x y a1 a2 b1 e1 e2 h1 h2=>?_},X⟩
 · rcases old q x e with ⟨rfl,rfl⟩|⟨_,e'⟩
   · exact ⟨b,b,etaNew,.inr rfl,λq=>hW (R.own _ q),O⟩
   · exact R'.obj q x e'
 · rcases old q x e1 with ⟨rfl,rfl⟩|⟨hq,e1'⟩
   · rcases old r y e2 with ⟨rfl,rfl⟩|⟨hr,e2'⟩
     · rfl
     · rw[etaNew] at h1
       cases h1
       exact absurd rfl (body r y _ _ e2' h2)
   · rcases old r y e2 with ⟨rfl,rfl⟩|⟨hr,e2'⟩
     · rw[etaNew] at h2
       cases h2
       exact absurd rfl (body q x _ _ e1' h1)
     · exact R'.inj q r x y a1 a2 b1 e1' e2' h1 h2
theorem Ext.open_ {w₀:Wd} {h₀ h:Heap} (X:Ext w₀ h₀ w h) {p:P} {b:Addr} (hp:w.eta p=none) (h0:h₀.get? b=none) (hX:w.X b):Ext w₀ h₀ (w.open_ p b hX) h where
 eta q x e:=by
  have e':=X.eta q x e
  have:q≠p:=λy=>by rw[y,hp] at e';cases e'
  show (if q=p then _ else _)=_
  rw[if_neg this];exact e'
 keep:=X.keep
 freshX:=X.freshX
 freshW a o e q:=q.elim (X.freshW a o e) λz=>by rw[z,h0] at e;cases e
 stay:=X.stay
 mono:=X.mono
theorem Heap.none_size (h:Heap):h.get? h.objs.size=none:=by
 cases e:h.get? h.objs.size with
 |none=>rfl
 |some o=>exact absurd (Heap.lt_size e) (Nat.lt_irrefl _)
end
end
structure CfOK (c:Cf):Prop where
 sys:∃o,c.base.get? sysModules=some o
 kin:c.K.In c.base
 hd:∀k,hasDictIn c.K (c.cls k)=true
 ga:∀k,findIn c.K (.ref (c.cls k)) "__getattribute__"=some (some (.builtin "object.__getattribute__"))
 gt:∀k,findIn c.K (.ref (c.cls k)) "__getattr__"=some none
 sa:∀k,findIn c.K (.ref (c.cls k)) "__setattr__"=some (some (.builtin "object.__setattr__"))
 po:∀k,plainOver c.K (c.cls k)=true
 at_:∀k,∀n∈c.att,findIn c.K (.ref (c.cls k)) n=some none
inductive RdP (Pm:Params) (w:Wd) (h:Heap):List (CD×CD)->List (Value×Value)->Prop
 |nil:RdP Pm w h [] []
 |cons {k v:CD} {ds:List (CD×CD)} {kv vv:Value} {ps:List (Value×Value)}:Rd Pm w h k kv->Rd Pm w h v vv->RdP Pm w h ds ps->RdP Pm w h ((k,v)::ds) ((kv,vv)::ps)
theorem RdP.extR {Pm:Params} {w w':Wd} {h h':Heap} (E:ExtR w h w' h') {ds:List (CD×CD)} {ps:List (Value×Value)} (r:RdP Pm w h ds ps):RdP Pm w' h' ds ps:=by
 induction r with
 |nil=>exact .nil
 |cons a b _ ih=>exact .cons (a.extR E) (b.extR E) ih
theorem RdP.length {Pm:Params} {w:Wd} {h:Heap} {ds:List (CD×CD)} {ps:List (Value×Value)} (r:RdP Pm w h ds ps):ps.length=ds.length:=by
 induction r with
 |nil=>rfl
 |cons _ _ _ ih=>exact congrArg (·+1) ih
section
variable {c:Cf} {lvl:Nat} {x:Cx}
def SoundPr (c:Cf) (lvl:Nat) (x:Cx) (keys:List (Option Expr)) (values:List Expr) (l:DL):Prop:=
 (keys.all (·.isSome)=true∧keys.length=values.length)∧∀pos f w s σ A (Q:List (Value×Value)->Shared->Prop) E k,FrOK x f->evD l s k=true->Rel c f w s σ->Room A lvl->
   (∀v s' w' σ' ds ps,k v s'=true->Rel c f w' s' σ'->Ext w σ.heap w' σ'.heap->ConcD c.ρ v ds->RdP c.wo.params w' σ'.heap ds ps->ps.length=keys.length->Q ps σ')->wpAny (model c.prog c.wo) A (evalPairs (pairTrees keys values f.cur pos)) Q E σ
theorem soundPr_nil:SoundPr c lvl x [] [] .nil:=by
 refine ⟨⟨rfl,rfl⟩,?_⟩
 intro pos f w s σ A Q E k fo h rel rm post
 exact evalPairs_nil (post .nil s w σ [] [] h rel (.refl _ _) .nil .nil rfl)
theorem soundPr_cons {q e:Expr} {ks:List (Option Expr)} {vs:List Expr} {a b:C} {l:DL} (K:SoundE c lvl x q a) (V:SoundE c lvl x e b) (L:SoundPr c lvl x ks vs l):SoundPr c lvl x (some q::ks) (e::vs) (.cons a b l):=by
 refine ⟨⟨by simpa using L.1.1,by simpa using L.1.2⟩,?_⟩
 intro pos f w s σ A Q E k fo h rel rm post
 have h:a s (λq s=>b s λv s=>evD l s λvs s=>k (.dcons q v vs) s)=true:=h
 refine pairTrees_cons_walk (K f w s σ A _ E _ fo h rel rm ?_)
 intro v1 s1 w1 σ1 d1 rv1 e1 rel1 X1 C1 r1
 refine V f w1 s1 σ1 A _ E _ fo e1 rel1 rm ?_
 intro v2 s2 w2 σ2 d2 rv2 e2 rel2 X2 C2 r2
 refine L.2 pos f w2 s2 σ2 A _ E _ fo e2 rel2 rm ?_
 intro v s3 w3 σ3 ds ps e3 rel3 X3 C3 r3 ln
 exact post _ s3 w3 σ3 ((d1,d2)::ds) ((rv1,rv2)::ps) e3 rel3 (X1.trans (X2.trans X3)) (.cons C1 C2 C3) (.cons (r1.ext (X2.trans X3)) (r2.ext X3) r3) (by simp[ln])
end
section
variable {prog:Program} {wo:World} {w:Wd} {A:Around} {E:Value->Shared->Prop} {σ:Shared} {ρ:Rho}
theorem puts_true {bd:BL} (B:BOk ρ bd) {b:Addr} {k:AV->Nat->Bool} {Q:PUnit->Shared->Prop} (hu:A.units+6<cLine) (ps:List (Value×Value)) {kvs acc:AV} {ds da:List (CD×CD)} {es:Array DictEntry} {n:Nat}
  (C:ConcD ρ kvs ds) (r:RdP wo.params w σ.heap ds ps) (Ca:ConcD ρ acc da) (D:DictW wo.params w σ.heap b es n da) (h:putsD bd kvs acc n k=true) (hsz:da.length+ds.length≤10000)
  (post:∀h' es' kvs' n' ds' tk,k kvs' n'=true->ConcD ρ kvs' ds'->DictW wo.params w h' b es' n' ds'->Heap.SameBut b σ.heap h'->ds'.length≤da.length+ds.length->Q .unit {σ with heap:=h',toks:=tk}):
  wpAny (model prog wo) A (forIn ps PUnit.unit λp U=>do dictSet b p.1 p.2;pure (ForInStep.yield PUnit.unit)) Q E σ:=by
 generalize hN:da.length+ds.length=N at hsz post ⊢
 refine wpAny_forIn_list _ (λrest U s'=>∃h' kvs acc ds da' es n tk,s'={σ with heap:=h',toks:=tk}∧ConcD ρ kvs ds∧RdP wo.params w h' ds rest∧ConcD ρ acc da'∧DictW wo.params w h' b es n da'∧putsD bd kvs acc n k=true∧Heap.SameBut b σ.heap h'∧da'.length+ds.length≤N) _ ?_ ?_ ps PUnit.unit
  ⟨σ.heap,kvs,acc,ds,da,es,n,σ.toks,rfl,C,r,Ca,D,h,⟨rfl,λU U=>rfl⟩,Nat.le_of_eq hN⟩
 · intro p rest _ s' h9;obtain ⟨h',kvs,acc,ds,da',es,n,tk,rfl,C,r,Ca,D,h,sb,le⟩:=h9
   cases r with
   |@cons dk dv _ _ _ _ rk rv r=>
   cases C with
   |cons C1 C2 C=>
   have h:and (keyA _ 6) (putD bd _ _ acc λacc' m=>putsD bd _ acc' (n+m) k)=true:=h
   rw[Bool.and_eq_true] at h
   have hq:=(keyA_conc _).1 6 _ h.1 C1
   obtain ⟨acc',m,h2,Ca',hm⟩:=putD_dec B C1 C2 hq Ca D.rd.keys h.2
   rw[List.length_cons] at le
   refine wpAny_bind (dictSet_key (σ:={σ with heap:=h',toks:=tk}) hu hq rk rv D.at_ D.rd D.nd (w.sub _ D.W) (Nat.le_trans D.size (by decide)) λh2' es' ep' tk' g sb' re hep=>wpAny_pure ?_)
   have l2:=putK_length (k:=dk) (v:=dv) da'
   have X:Ext w h' w h2':=.write D.W sb' ⟨_,g⟩
   have hepn:ep'=n+m:=by
    rcases hm with ⟨⟨u,hu⟩,rfl⟩|⟨hu,rfl⟩<;>rw[hep,hu]
    rfl
   subst hepn
   have sz:es'.size≤10000:=by
    have e1:=re.length
    have e3:es'.toList.length=es'.size:=by simp
    omega
   exact ⟨h2',_,acc',_,_,es',_,tk',rfl,C,RdP.extR X.r r,Ca',⟨g,re,putK_nodup D.nd,D.sys,sz,D.W⟩,h2,sb.trans sb',by omega⟩
 · intro _ s' h9;obtain ⟨h',kvs,acc,ds,da',es,n,tk,rfl,C,r,Ca,D,h,sb,le⟩:=h9
   cases r
   cases C
   exact post h' es acc n da' tk h Ca D sb (by simpa using le)
end
section
variable {c:Cf} {lvl:Nat} {x:Cx}
theorem base_ne {c:Cf} {f:Fm} {w:Wd} {s:St} {σ:Shared} (ok:CfOK c) (rel:Rel c f w s σ):(σ.heap.objs.size==sysModules)=false:=by
 obtain ⟨o,e⟩:=ok.sys
 have:=(rel.base _ _ e).1
 cases q:σ.heap.objs.size==sysModules with
 |false=>rfl
 |true=>
  have q:=eq_of_beq q
  rw[← q,Heap.none_size] at this
  cases this
open Classical in
theorem sound_dct {ks:List (Option Expr)} {vs:List Expr} {l:DL} {pos:Pos} (ok:CfOK c) (H:SoundPr c lvl x ks vs l) (h0:ks≠[]) (hn:ks.length≤15):SoundE c lvl x (.Dict ks vs pos) (dctE l):=by
 intro f w s σ A Q E k fo h rel rm post
 have h:evD l s (λkvs s=>putsD s.bd kvs .nil 0 λkvs n=>newO (.dict n kvs) s k)=true:=h
 have hl:=pairTrees_length ks vs f.cur pos H.1.1 H.1.2
 rw[arm_eval_Dict,zip_pairTrees ks vs f.cur pos H.1.1 H.1.2,dictDisplay_pairs _ (λe=>h0 (by rw[e] at hl;exact List.length_eq_zero_iff.mp hl.symm)) (by omega)]
 refine wpAny_bind (wpAny_standAt (wpAny_bind ?_))
 unfold subDict
 refine wpAny_bind (wpAny_alloc ?_)
 refine wpAny_bind (wpAny_holding ?_)
 rw[if_pos (by omega)]
 have kp:∀a o,σ.heap.get? a=some o->(σ.heap.push (dObj #[] 0)).get? a=some o:=λa o e=>Heap.get?_push_of_some _ e
 have hb:=Heap.none_size σ.heap
 obtain ⟨rel',X'⟩:=rel.shield (tk:=σ.toks) hb kp ⟨_,Heap.get?_push_size _ rfl⟩
 have hsys:=base_ne ok rel
 generalize hB:σ.heap.objs.size=b at*
 refine wpAny_bind (H.2 pos f _ s _ A _ E _ fo h rel' rm ?_)
 intro v s1 w1 σ1 ds ps e1 rel1 X1 C1 r1 ln
 refine wpAny_holding ?_
 have nW:¬w.W b:=λq=>by obtain ⟨o,e⟩:=rel.dom b (w.sub _ q);rw[hb] at e;cases e
 obtain ⟨g1,bX,bW⟩:=X1.shielded (b:=b) (o:=dObj #[] 0) (by rw[← hB];exact Heap.get?_push_size _ rfl) (.inr rfl) nW
 have ER:ExtR w1 σ1.heap (w1.open_ s1.nx b bX) σ1.heap:=by
  refine ⟨λq x e=>?_,λU U e U=>e,λU U U q=>q⟩
  have:q≠s1.nx:=λy=>by rw[y,rel1.nxNone] at e;cases e
  show (if q=s1.nx then _ else _)=_
  rw[if_neg this];exact e
 have hu:=rm.units
 refine wpAny_bind (puts_true (w:=w1.open_ s1.nx b bX) rel1.bd (b:=b) (by omega) ps C1 (RdP.extR ER r1) .nil (es:=#[]) (n:=0) ⟨g1,.nil,.nil,hsys,Nat.zero_le _,.inr rfl⟩ e1 (by have:=r1.length;simp;omega) ?_)
 intro h2 es2 kvs2 n2 ds2 tk2 e2 C2 D2 sb2 _
 refine wpAny_pure (wpAny_pure (wpAny_pure ?_))
 have e2:newO (.dict n2 kvs2) s1 k=true:=e2
 obtain ⟨rel2,X2⟩:=rel1.side (tk:=tk2) bX bW sb2 ⟨_,D2.at_⟩
 obtain ⟨rel3,X3⟩:=rel2.open_ (o:=.dict n2 kvs2) bX bW ⟨ds2,es2,rfl,C2,D2⟩
 have X:Ext w σ.heap (w1.open_ s1.nx b bX) h2:=((X'.trans X1).side hb sb2).open_ rel1.nxNone hb bX
 refine post (.loc s1.nx) _ _ _ (.loc s1.nx) _ e2 rel3 X (.loc _) (.loc (b:=b) ?_)
 show (if s1.nx=s1.nx then _ else _)=_
 rw[if_pos rfl]
theorem sound_dct0 {pos:Pos} (ok:CfOK c):SoundE c lvl x (.Dict [] [] pos) (dctE .nil):=by
 intro f w s σ A Q E k fo h rel rm post
 have h:newO (.dict 0 .nil) s k=true:=h
 have kp:∀a o,σ.heap.get? a=some o->(σ.heap.push (dObj #[] 0)).get? a=some o:=λa o e=>Heap.get?_push_of_some _ e
 have hb:=Heap.none_size σ.heap
 obtain ⟨R',X'⟩:=rel.new (tk:=σ.toks) (o:=.dict 0 .nil) (a:=σ.heap.objs.size) hb kp ⟨[],#[],rfl,.nil,Heap.get?_push_size _ rfl,.nil,.nil,base_ne ok rel,Nat.zero_le _,.inr rfl⟩
 exact wpAny_Dict_empty (post (.loc s.nx) _ _ _ (.loc s.nx) _ h R' X' (.loc _) (.loc (b:=σ.heap.objs.size) Wd.new_eta))
end
section
open Builtin Builtin.ObjectAttr
def getN (a:Nat) (kvs:AV) (k:AV->Bool):Bool:=
 foldD false (λq v U ih=>AV.rec (motive:=λU=>Bool) false (λU=>false) (λU=>false) (λU=>false) (λU U=>false) (λU U=>false) false (λc=>Bool.rec ih (k v) (Nat.beq c a)) false (λU U=>false) (λU U=>false) (λU U=>false) (λU U=>false) (λU=>false) false (λU U U U=>false) (λU U U U U U=>false) q) kvs
theorem isStr_str (s:Str) (t:Tok) (n:Str):Value.isStr (.str s t) n=(s==n):=rfl
theorem strNe {s n:Str} (h:¬s=n):(s==n)=false:=by
 cases z:s==n with
 |false=>rfl
 |true=>exact absurd (eq_of_beq z) h
theorem getN_true {ρ:Rho} {Pm:Params} {w:Wd} {h:Heap} {n:Str} (hs:okS n=true) {k:AV->Bool} {kvs:AV} {ds:List (CD×CD)} {es:List DictEntry} (C:ConcD ρ kvs ds) (r:RdE Pm w h ds es) (g:getN (sc n) kvs k=true):
  ∃e v d,es.find? (·.key.isStr n)=some e∧Conc ρ v d∧Rd Pm w h d e.val∧k v=true:=by
 induction C using ConcD.ind generalizing es with
 |nil=>exact fF g
 |@cons q v t dq dv ds C V T ih=>
  cases C with
  |str s o=>
   have g:(Bool.rec (getN (sc n) t k) (k v) (Nat.beq (sc s) (sc n)):Bool)=true:=g
   refine r.inv λkv vv es e hk rk rv rs=>?_
   subst e
   refine rk.inv λtk e=>?_
   subst e
   rcases boolRec_true g with ⟨b,g2⟩|⟨b,g2⟩
   · have:=sc_inj o hs (beq_true b)
     subst this
     exact ⟨⟨keyH Pm (.str s),.str s tk,vv⟩,v,dv,(by rw[List.find?_cons];simp[isStr_str]),V,rv,g2⟩
   · have ne:(s==n)=false:=strNe λq=>absurd (by rw[q]) (beq_false b)
     obtain ⟨e,v',d',h1,h2,h3,h4⟩:=ih rs g2
     exact ⟨e,v',d',(by rw[List.find?_cons];simp[isStr_str,ne];exact h1),h2,h3,h4⟩
  |_=>exact fF g
section
variable {c:Cf} {lvl:Nat} {x:Cx}
theorem inst_true {f:Fm} {w:Wd} {s:St} {σ:Shared} {v:AV} {d:CD} {rv:Value} {k:Nat->AV->Bool} (rel:Rel c f w s σ) (C:Conc c.ρ v d) (r:Rd c.wo.params w σ.heap d rv) (h:(isLoc v λi=>HT.get i s.hp λo=>isInst o k)=true):
  ∃p a b q kvs ds es n,v=.loc p∧rv=.ref a∧w.eta p=some (a,b)∧HT.find p s.hp=some (.inst q kvs)∧σ.heap.get? a=some (iObj (c.cls q) b)∧¬w.X a∧ConcD c.ρ kvs ds∧(∀x∈ds,∃s,x.1=.str s)∧DictW c.wo.params w σ.heap b es n ds∧
   InstAt σ.heap a (iObj (c.cls q) b) (c.cls q) (some (dObj es n))∧k q kvs=true:=by
 obtain ⟨p,rfl,h⟩:=isLoc_true h
 obtain ⟨o,ho,h⟩:=HT.get_true h
 obtain ⟨q,kvs,rfl,h⟩:=isInst_true h
 cases C with
 |loc p=>
 cases r with
 |loc hp=>
 obtain ⟨a',b',he',_,_,O⟩:=rel.obj p _ ho
 rw[hp] at he'
 cases he'
 obtain ⟨ds,es,n,g,nx,C,st,D⟩:=O
 exact ⟨p,_,_,q,kvs,ds,es,n,rfl,rfl,hp,ho,g,nx,C,st,D,⟨g,rfl,rfl,D.at_⟩,h⟩
theorem CfOK.In {f:Fm} {w:Wd} {s:St} {σ:Shared} (ok:CfOK c) (rel:Rel c f w s σ):c.K.In σ.heap:=λa o e=>(rel.base a o (ok.kin a o e)).1
theorem handed_rd {Pm:Params} {w:Wd} {h:Heap} {d:CD} {v:Value} (r:Rd Pm w h d v):handedIn v=true:=by cases r<;>rfl
noncomputable def noBareCall (e:Expr):Bool:=onCall e (λU=>true) λf a w U=>onName f (λU=>true) λU U=>!(a.isEmpty&&w.isEmpty)
theorem base_of {o:Expr} {n:Str} {env:Env} {m:Sem Value} (h:noBareCall o=true):attributeBase o n env m=m:=by
 cases o with
 |Call f as ks p=>cases f with
  |Name=>cases as with
   |nil=>cases ks with
    |nil=>exact fF h
    |_=>rfl
   |_=>rfl
  |_=>rfl
 |_=>rfl
theorem sound_attr {e:Expr} {n:Str} {a:C} {pos:Pos} (ok:CfOK c) (H:SoundE c lvl x e a) (hn:n∈c.att) (hs:okS n=true) (hb:noBareCall e=true):SoundE c lvl x (.Attribute e n pos) (attr (sc n) a):=by
 intro f w s σ A Q E k fo h rel rm post
 show wpAny _ A (do
  let o ←attributeBase e n f.cur (eval e f.cur)
  standAt pos.atName
  let r ←holding [o] (getAttr o n true)
  letTemporaryGo e o r
  pure r) Q E σ
 rw[base_of hb]
 refine wpAny_bind (H f w s σ A _ E _ fo h rel rm ?_)
 intro v s1 w1 σ1 d rv e1 rel1 X1 C1 r1
 obtain ⟨p,ad,b,q,kvs,ds,es,m,rfl,rfl,hp,ho,g,nx,C,st,D,I,e1⟩:=inst_true (k:=λU kvs=>getN (sc n) kvs λv=>k v s1) rel1 C1 r1 e1
 obtain ⟨en,v,dv,hf,Cv,rv,hk⟩:=getN_true hs C D.rd e1
 refine wpAny_bind (wpAny_standAt (wpAny_bind (wpAny_holding ?_)))
 have hhd:handedIn en.val=true:=handed_rd rv
 refine get_value (ok.In rel1) I (ok.ga q) (findObj_own (v:=en.val) (ok.hd q) (ok.at_ q n hn) rfl ?_) hhd ?_
 · show lookIn n (dObj es m)=_
   unfold lookIn
   dsimp only
   rw[hf]
 · exact wpAny_bind (wpAny_letTemporaryGo (wpAny_pure (post v s1 w1 _ dv en.val hk rel1.toks X1 Cv rv)))
def attrK (q0 a:Nat) (e:C):C:=λs k=>e s λo s=>isLoc o λi=>HT.get i s.hp λo=>isInst o λcc kvs=>wi cc q0 (getN a kvs λv=>k v s) false
def tAttrK (q0 a:Nat) (o:C):A:=λv s k=>o s λo s=>isLoc o λp=>HT.get p s.hp λob=>isInst ob λcc kvs=>wi cc q0 (putD s.bd (.str a) v kvs λkvs U=>ok4 (lenD kvs) (k (setO p (.inst cc kvs) s))) false
theorem wi_true {x y:Nat} {t:Bool} (h:wi x y t false=true):x=y∧t=true:=by
 unfold wi at h
 cases q:Nat.beq x y with
 |true=>rw[q] at h;exact ⟨Nat.eq_of_beq_eq_true q,h⟩
 |false=>rw[q] at h;cases h
theorem sound_attrK {q0:Nat} {e:Expr} {n:Str} {a:C} {pos:Pos} (ok:CfOK c) (H:SoundE c lvl x e a) (hn:findIn c.K (.ref (c.cls q0)) n=some none) (hs:okS n=true) (hb:noBareCall e=true):SoundE c lvl x (.Attribute e n pos) (attrK q0 (sc n) a):=by
 intro f w s σ A Q E k fo h rel rm post
 show wpAny _ A (do
  let o ←attributeBase e n f.cur (eval e f.cur)
  standAt pos.atName
  let r ←holding [o] (getAttr o n true)
  letTemporaryGo e o r
  pure r) Q E σ
 rw[base_of hb]
 refine wpAny_bind (H f w s σ A _ E _ fo h rel rm ?_)
 intro v s1 w1 σ1 d rv e1 rel1 X1 C1 r1
 obtain ⟨p,ad,b,q,kvs,ds,es,m,rfl,rfl,hp,ho,g,nx,C,st,D,I,e1⟩:=inst_true (k:=λcc kvs=>wi cc q0 (getN (sc n) kvs λv=>k v s1) false) rel1 C1 r1 e1
 obtain ⟨eq1,e9⟩:=wi_true e1
 subst eq1
 have e1:=e9
 obtain ⟨en,v,dv,hf,Cv,rv,hk⟩:=getN_true hs C D.rd e1
 refine wpAny_bind (wpAny_standAt (wpAny_bind (wpAny_holding ?_)))
 have hhd:handedIn en.val=true:=handed_rd rv
 refine get_value (ok.In rel1) I (ok.ga q) (findObj_own (v:=en.val) (ok.hd q) hn rfl ?_) hhd ?_
 · show lookIn n (dObj es m)=_
   unfold lookIn
   dsimp only
   rw[hf]
 · exact wpAny_bind (wpAny_letTemporaryGo (wpAny_pure (post v s1 w1 _ dv en.val hk rel1.toks X1 Cv rv)))
theorem putL_rd {Pm:Params} {w:Wd} {h:Heap} {n:Str} {dv:CD} {vv:Value} {t:Tok} (hs:okS n=true) (rv:Rd Pm w h dv vv) {ds:List (CD×CD)} {es:List DictEntry} (r:RdE Pm w h ds es) (st:∀x∈ds,∃s,x.1=.str s):
  RdE Pm w h (putK (.str n) dv ds) (putL n (PyData.keyHash Pm n) (.str n t) vv es)∧(getK (.str n) ds=none->es.any (·.key.isStr n)=false)∧(∀u,getK (.str n) ds=some u->es.any (·.key.isStr n)=true):=by
 induction r using RdE.ind with
 |nil=>exact ⟨.cons (k:=.str n) hs (.str n t) rv .nil,λU=>rfl,λu e=>nS e⟩
 |@cons k v ds kv vv' es hk rk rv' r ih=>
  obtain ⟨s,e⟩:∃s,k=.str s:=st _ List.mem_cons_self
  subst e
  obtain ⟨i1,i2,i3⟩:=ih λx hx=>st x (List.mem_cons_of_mem _ hx)
  refine rk.inv λtk e=>?_
  subst e
  unfold putL
  by_cases q:s=n
  · subst q
    rw[putK_hit,getK_hit]
    refine ⟨?_,λe=>nS e.symm,λu U=>(by simp[isStr_str])⟩
    rw[if_pos (by rw[isStr_str];simp)]
    exact .cons hk (.str s tk) rv r
  · have q':¬CD.str s=.str n:=λe=>q (by cases (e);rfl)
    have ne:=strNe q
    rw[putK_miss q',getK_miss q']
    refine ⟨?_,λe=>(by simpa[isStr_str,ne] using i2 e),λu e=>(by simpa[isStr_str,ne] using i3 u e)⟩
    rw[if_neg (by rw[isStr_str,ne];exact Bool.false_ne_true)]
    exact .cons hk (.str s tk) rv' i1
theorem noRef {Pm:Params} {w:Wd} {h:Heap} {ds:List (CD×CD)} {es:List DictEntry} (r:RdE Pm w h ds es) (st:∀x∈ds,∃s,x.1=.str s):es.any (·.refKey)=false:=by
 induction r using RdE.ind with
 |nil=>rfl
 |@cons k v ds kv vv' es hk rk rv' r ih=>
  obtain ⟨s,e⟩:∃s,k=.str s:=st _ List.mem_cons_self
  subst e
  refine rk.inv λtk e=>?_
  subst e
  exact ih λx hx=>st x (List.mem_cons_of_mem _ hx)
theorem putK_strs {n:Str} {v:CD} {ds:List (CD×CD)} (st:∀x∈ds,∃s,x.1=.str s) {y:CD×CD} (h:y∈putK (.str n) v ds):∃s,y.1=.str s:=by
 induction ds with
 |nil=>exact ⟨n,by rw[List.mem_singleton.mp h]⟩
 |cons x ds ih=>
  have st':=λx hx=>st x (List.mem_cons_of_mem _ hx)
  obtain ⟨a,u⟩:=x
  refine getK_cs (u:=(a,u)) (k:=.str n) (λq=>?_) λq=>?_
  · change a=.str n at q
    rw[q,putK_hit] at h
    exact (List.mem_cons.mp h).elim (λe=>⟨n,by rw[e]⟩) (st' y)
  · rw[putK_miss q] at h
    exact (List.mem_cons.mp h).elim (λe=>by rw[e];exact st _ List.mem_cons_self) (ih st')
theorem HT.get_of {i:P} {t:HT} {o:AObj} {k:AObj->Bool} (h:HT.find i t=some o) (e:k o=true):HT.get i t k=true:=by
 induction i generalizing t with
 |h=>cases t with
  |ob=>cases h;exact e
  |_=>exact nS h
 |o p ih=>cases t with
  |lf=>exact nS h
  |_=>exact ih h
 |i p ih=>cases t with
  |lf=>exact nS h
  |_=>exact ih h
theorem lookIn_some {n:Str} {es:Array DictEntry} {m:Nat} (h:es.toList.any (·.refKey)=false):(lookIn n (dObj es m)).isSome=true:=by
 unfold lookIn
 dsimp only
 cases es.toList.find? (·.key.isStr n) with
 |some e=>rfl
 |none=>dsimp only;rw[h];rfl
theorem set_inst {prog:Program} {wo:World} {A:Around} {E:Value->Shared->Prop} {σ:Shared} {K:Frag} {a dx C:Addr} {ox:Obj} {n:Str} {v:Value} {es:Array DictEntry} {m:Nat} {Q:Unit->Shared->Prop} (X:K.In σ.heap)
  (I:InstAt σ.heap a ox C (some (dObj es m))) (hd:ox.dict=some dx) (D:σ.heap.get? dx=some (dObj es m)) (hs:findIn K (.ref C) "__setattr__"=some (some (.builtin "object.__setattr__"))) (hp:plainOver K C=true) (ht:findIn K (.ref C) n=some none)
  (hh:hasDictIn K C=true) (hr:es.toList.any (·.refKey)=false) (hz:es.size≤10000)
  (h:∀h' tk tk',h'.get? dx=some (dObj (putL n (PyData.keyHash wo.params n) (.str n tk) v es.toList).toArray (putN n es.toList m))->Heap.SameBut dx σ.heap h'->Q () {σ with heap:=h',toks:=tk'}):
  wpAny (model prog wo) A (setAttr (.ref a) n v) Q E σ:=by
 refine set_plain X I hs (osa_open (s:={σ with toks:=σ.toks+1}) (r:=none) X I hp (by unfold takerIn;rw[ht];rfl) λb=>?_)
 obtain ⟨cd,hc,hd'⟩:=any_some hh
 obtain ⟨hx,hcl,hn,-⟩:=I
 obtain ⟨oc,odi,oda,osl⟩:=ox
 dsimp only at hcl hd
 subst hcl hd
 have hl:=lookIn_some (n:=n) (m:=m) hr
 refine wpAny_bind (wpAny_pure (wpAny_bind (wpAny_bind (wpAny_loadPart (s:={σ with toks:=σ.toks+1}) hx (wpAny_bind (Looks.here (s:={σ with toks:=σ.toks+1}) (looks_clsIn (h:=σ.heap) X hc) ?_))))))
 rw[hd']
 refine wpAny_pure (a:=some dx) (wpAny_bind (wpAny_pure (wpAny_bind ?_)))
 unfold nsSet
 refine wpAny_bind (wpAny_bind (wpAny_askSetting (wpAny_pure (wpAny_bind (wpAny_mkText (wpAny_bind (wpAny_loadPart D ?_)))))))
 have hany:es.any (·.refKey)=false:=by rw[← Array.any_toList];exact hr
 have cc:(!es.any (·.key.isStr n)&&es.any (·.refKey))=false:=by rw[hany,Bool.and_false]
 dsimp only
 rw[aRefKeyMayBeTheName_at,cc]
 have e:Obj.putName n (PyData.keyHash wo.params n) (.str n (σ.toks+1)) v (dObj es m)=dObj (putL n (PyData.keyHash wo.params n) (.str n (σ.toks+1)) v es.toList).toArray (putN n es.toList m):=by
  have:=putName_dict n (PyData.keyHash wo.params n) (.str n (σ.toks+1)) v es.toList m
  simpa using this
 have D':=Heap.get?_update_self (h:=σ.heap) (a:=dx) (Obj.putName n (PyData.keyHash wo.params n) (.str n (σ.toks+1)) v) D (by rw[e];rfl)
 rw[e] at D'
 refine wpAny_updatePart D ?_
 have len:∀l:List DictEntry,(putL n (PyData.keyHash wo.params n) (.str n (σ.toks+1)) v l).length≤l.length+1:=by
  intro l
  induction l with
  |nil=>simp[putL]
  |cons e r ih=>
   unfold putL
   split
   · simp
   · simp;omega
 refine wpAny_bind (wpAny_lookBehind D' (pastItsLine_dict ?_) ?_)
 · have:=len es.toList
   have e2:es.toList.length=es.size:=Array.length_toList
   rw[List.size_toArray,sizeLine_eq];omega
 · exact wpAny_pure (h _ _ _ D' (Heap.SameBut.update ..))
theorem sound_tAttr {e:Expr} {n:Str} {a:C} {pos:Pos} (ok:CfOK c) (H:SoundE c lvl x e a) (hn:n∈c.att) (hs:okS n=true):SoundA c lvl x (.Attribute e n pos) (tAttr (sc n) a):=by
 intro f w s σ A Q E k v d rv fo h rel rm C r post
 show wpAny _ A (do
  let ov ←holding [rv] (eval e f.cur)
  standAt pos.atName
  holding [rv,ov] (setAttr ov n rv)
  release [rv,ov] []) Q E σ
 have h:a s (λo s=>isLoc o λp=>HT.get p s.hp λob=>isInst ob λc kvs=>putD s.bd (.str (sc n)) v kvs λkvs U=>ok4 (lenD kvs) (k (setO p (.inst c kvs) s)))=true:=h
 refine wpAny_bind (wpAny_holding (H f w s σ A _ E _ fo h rel rm ?_))
 intro o s1 w1 σ1 d1 rv1 e1 rel1 X1 C1 r1
 have e1':(isLoc o λi=>HT.get i s1.hp λo=>isInst o λU U=>true)=true:=by
  obtain ⟨p,rfl,g⟩:=isLoc_true e1
  obtain ⟨ob,ho,g⟩:=HT.get_true g
  obtain ⟨q,kvs,rfl,g⟩:=isInst_true g
  show HT.get p s1.hp _=true
  exact HT.get_of ho rfl
 obtain ⟨p,ad,b,q,kvs,ds,es,m,rfl,rfl,hp,hf,g,nx,C2,st,D,I,-⟩:=inst_true rel1 C1 r1 e1'
 obtain ⟨ob,hob,e1⟩:=HT.get_true (show HT.get p s1.hp (λob=>isInst ob λc kvs=>putD s1.bd (.str (sc n)) v kvs λkvs U=>ok4 (lenD kvs) (k (setO p (.inst c kvs) s1)))=true from e1)
 rw[hf] at hob
 cases hob
 have e1:putD s1.bd (.str (sc n)) v kvs (λkvs U=>ok4 (lenD kvs) (k (setO p (.inst q kvs) s1)))=true:=e1
 have hk:CD.key 6 (.str n)=true:=by exact hs
 obtain ⟨kvs',m',e2,C3,hm⟩:=putD_dec rel1.bd (.str n hs) C hk C2 D.rd.keys e1
 obtain ⟨sz,e2⟩:=ok4_true e2
 refine wpAny_bind (wpAny_standAt (wpAny_bind (wpAny_holding (set_inst (ok.In rel1) I rfl D.at_ (ok.sa q) (ok.po q) (ok.at_ q n hn) (ok.hd q) (noRef D.rd st) D.size λh' tk tk' g' sb=>wpAny_release' ?_))))
 have rv2:=r.ext X1
 have X2:Ext w1 σ1.heap w1 h':=.write D.W sb ⟨_,g'⟩
 obtain ⟨P1,P2,P3⟩:=putL_rd (t:=tk) (Pm:=c.wo.params) (w:=w1) (h:=h') hs (rv2.ext X2) (D.rd.ext X2) st
 have len:=P1.length
 rw[lenD_conc C3] at sz
 have O':ObjAt c w1 (.inst q kvs') ad b h':=by
  refine ⟨_,_,_,X2.keep _ _ g λz=>nx (w1.sub _ z),nx,C3,λy hy=>?_,⟨g',by simpa using P1,putK_nodup D.nd,D.sys,by rw[List.size_toArray,len];exact sz,D.W⟩⟩
  exact putK_strs st hy
 exact post (setO p (.inst q kvs') s1) w1 _ e2 (rel1.write (tk:=tk') hf hp sb O') (X1.trans X2)
theorem sound_tAttrK {q0:Nat} {e:Expr} {n:Str} {a:C} {pos:Pos} (ok:CfOK c) (H:SoundE c lvl x e a) (hn:findIn c.K (.ref (c.cls q0)) n=some none) (hs:okS n=true):SoundA c lvl x (.Attribute e n pos) (tAttrK q0 (sc n) a):=by
 intro f w s σ A Q E k v d rv fo h rel rm C r post
 show wpAny _ A (do
  let ov ←holding [rv] (eval e f.cur)
  standAt pos.atName
  holding [rv,ov] (setAttr ov n rv)
  release [rv,ov] []) Q E σ
 have h:a s (λo s=>isLoc o λp=>HT.get p s.hp λob=>isInst ob λcc kvs=>wi cc q0 (putD s.bd (.str (sc n)) v kvs λkvs U=>ok4 (lenD kvs) (k (setO p (.inst cc kvs) s))) false)=true:=h
 refine wpAny_bind (wpAny_holding (H f w s σ A _ E _ fo h rel rm ?_))
 intro o s1 w1 σ1 d1 rv1 e1 rel1 X1 C1 r1
 have e1':(isLoc o λi=>HT.get i s1.hp λo=>isInst o λU U=>true)=true:=by
  obtain ⟨p,rfl,g⟩:=isLoc_true e1
  obtain ⟨ob,ho,g⟩:=HT.get_true g
  obtain ⟨q,kvs,rfl,g⟩:=isInst_true g
  show HT.get p s1.hp _=true
  exact HT.get_of ho rfl
 obtain ⟨p,ad,b,q,kvs,ds,es,m,rfl,rfl,hp,hf,g,nx,C2,st,D,I,-⟩:=inst_true rel1 C1 r1 e1'
 obtain ⟨ob,hob,e1⟩:=HT.get_true (show HT.get p s1.hp (λob=>isInst ob λcc kvs=>wi cc q0 (putD s1.bd (.str (sc n)) v kvs λkvs U=>ok4 (lenD kvs) (k (setO p (.inst cc kvs) s1))) false)=true from e1)
 rw[hf] at hob
 cases hob
 have e1:wi q q0 (putD s1.bd (.str (sc n)) v kvs (λkvs U=>ok4 (lenD kvs) (k (setO p (.inst q kvs) s1)))) false=true:=e1
 obtain ⟨eq1,e9⟩:=wi_true e1
 subst eq1
 have e1:=e9
 have hk:CD.key 6 (.str n)=true:=by exact hs
 obtain ⟨kvs',m',e2,C3,hm⟩:=putD_dec rel1.bd (.str n hs) C hk C2 D.rd.keys e1
 obtain ⟨sz,e2⟩:=ok4_true e2
 refine wpAny_bind (wpAny_standAt (wpAny_bind (wpAny_holding (set_inst (ok.In rel1) I rfl D.at_ (ok.sa q) (ok.po q) hn (ok.hd q) (noRef D.rd st) D.size λh' tk tk' g' sb=>wpAny_release' ?_))))
 have rv2:=r.ext X1
 have X2:Ext w1 σ1.heap w1 h':=.write D.W sb ⟨_,g'⟩
 obtain ⟨P1,P2,P3⟩:=putL_rd (t:=tk) (Pm:=c.wo.params) (w:=w1) (h:=h') hs (rv2.ext X2) (D.rd.ext X2) st
 have len:=P1.length
 rw[lenD_conc C3] at sz
 have O':ObjAt c w1 (.inst q kvs') ad b h':=by
  refine ⟨_,_,_,X2.keep _ _ g λz=>nx (w1.sub _ z),nx,C3,λy hy=>?_,⟨g',by simpa using P1,putK_nodup D.nd,D.sys,by rw[List.size_toArray,len];exact sz,D.W⟩⟩
  exact putK_strs st hy
 exact post (setO p (.inst q kvs') s1) w1 _ e2 (rel1.write (tk:=tk') hf hp sb O') (X1.trans X2)
end
end
section
variable {c:Cf} {lvl:Nat} {x:Cx}
theorem sound_tIdx {o i:Expr} {a b:C} {pos:Pos} (H:SoundE c lvl x o a) (J:SoundE c lvl x i b):SoundA c lvl x (.Subscript o i pos) (tIdx a b):=by
 intro f w s σ A Q E k v d rv fo h rel rm C r post
 show wpAny _ A (holding [rv] (eval o f.cur)>>= λov=>holding [rv,ov] (eval i f.cur)>>= λiv=>standAt pos>>= λU=>holding [rv,ov,iv] (setItem ov iv rv)>>= λU=>release _ []) Q E σ
 refine wpAny_bind (wpAny_holding (H f w s σ A _ E _ fo h rel rm ?_))
 intro o1 s1 w1 σ1 d1 rv1 e1 rel1 X1 C1 r1
 refine wpAny_bind (wpAny_holding (J f w1 s1 σ1 A _ E _ fo e1 rel1 rm ?_))
 intro i2 s2 w2 σ2 d2 rv2 e2 rel2 X2 C2 r2
 obtain ⟨p,rfl,g⟩:=isLoc_true e2
 obtain ⟨ob,ho,g⟩:=HT.get_true g
 cases ob with
 |list xs=>exact fF g
 |inst q kvs=>exact fF g
 |dict ep kvs=>
  have g:and (keyA i2 6) (putD s2.bd i2 v kvs λkvs n=>ok4 (lenD kvs) (k (setO p (.dict (Nat.add ep n) kvs) s2)))=true:=g
  rw[Bool.and_eq_true] at g
  cases C1
  cases r1.ext X2 with
  |loc hp=>
  have hq:=(keyA_conc i2).1 6 d2 g.1 C2
  refine wpAny_bind (wpAny_standAt (wpAny_bind (wpAny_holding (store_dict rel2 (rm.down (Nat.zero_le _)) ho hp hq C2 C r2 (r.ext (X1.trans X2)) g.2 (λr' n σ' hk U rel3 X3=>wpAny_release' ?_) λr' n hk=>(ok4_true hk).1))))
  exact post _ w2 σ' (ok4_true hk).2 rel3 (X1.trans (X2.trans X3))
end
inductive RngA:AV->Int->Int->Int->Prop
 |nil {x left step:Int}:left≤0->RngA .nil x left step
 |cons {n:Nat} {t:AV} {left step:Int}:0<left->RngA t ((n:Int)+step) (left-1) step->RngA (.cons (.nat n) t) (n:Int) left step
inductive ItAt (c:Cf) (w:Wd) (h:Heap) (it:Addr):It->Prop
 |tup {t:Addr} {o:Obj} {vs:Array Value} {n i:Nat} {xs:AV} {ds:List CD}:h.IsTupleIter it t i->h.get? t=some o->o.cls=.type "tuple"->o.data=.seq vs n->¬w.X t->ConcL c.ρ xs ds->RdL c.wo.params w h ds (vs.toList.drop i)->ItAt c w h it (.fz xs)
 |lst {t:Addr} {o:Obj} {vs:Array Value} {n i:Nat} {xs:AV} {ds:List CD}:h.IsListIter it t i->h.get? t=some o->o.cls=.type "list"->o.data=.seq vs n->¬w.X t->ConcL c.ρ xs ds->RdL c.wo.params w h ds (vs.toList.drop i)->ItAt c w h it (.fz xs)
 |dic {t:Addr} {o:Obj} {es:Array DictEntry} {ep i:Nat} {xs:AV} {ds:List CD}:h.IsKeyIter it t i es.size ep->h.get? t=some o->o.ExactDict->o.data=.dict es ep->¬w.X t->ConcL c.ρ xs ds->RdL c.wo.params w h ds ((es.toList.drop i).map (·.key))->ItAt c w h it (.fz xs)
 |byt {b:Array UInt8} {t:Tok} {i:Nat} {xs:AV}:KBw.IsBytesIter h it b t i->ConcB c.ρ xs (b.toList.drop i)->ItAt c w h it (.fz xs)
 |rng {x left step:Int} {xs:AV}:IsRangeIter h it x left step->RngA xs x left step->ItAt c w h it (.fz xs)
 |ls {p:P} {l:Addr} {i:Nat}:w.eta p=some (l,l)->h.IsListIter it l i->ItAt c w h it (.ls p i)
 |dk {p:P} {d:Addr} {i n ep:Nat}:w.eta p=some (d,d)->h.IsKeyIter it d i n ep->ItAt c w h it (.dk p ep n i)
theorem ItAt.ext {c:Cf} {w w':Wd} {h h':Heap} {it:Addr} {I:It} (x:ItAt c w h it I) (E:ExtR w h w' h') (e:h'.get? it=h.get? it):ItAt c w' h' it I:=by
 cases x with
 |tup a b c d nx C r=>obtain ⟨o,ho,q⟩:=a;exact .tup ⟨o,e.trans ho,q⟩ (E.keep _ _ b nx) c d (λq=>nx (E.freshX _ _ b q)) C (r.extR E)
 |lst a b c d nx C r=>obtain ⟨o,ho,q⟩:=a;exact .lst ⟨o,e.trans ho,q⟩ (E.keep _ _ b nx) c d (λq=>nx (E.freshX _ _ b q)) C (r.extR E)
 |dic a b c d nx C r=>obtain ⟨o,ho,q⟩:=a;exact .dic ⟨o,e.trans ho,q⟩ (E.keep _ _ b nx) c d (λq=>nx (E.freshX _ _ b q)) C (r.extR E)
 |byt a C=>obtain ⟨o,ho,q⟩:=a;exact .byt ⟨o,e.trans ho,q⟩ C
 |rng a C=>exact .rng (e.trans a) C
 |ls a b=>obtain ⟨o,ho,q⟩:=b;exact .ls (E.eta _ _ a) ⟨o,e.trans ho,q⟩
 |dk a b=>obtain ⟨o,ho,q⟩:=b;exact .dk (E.eta _ _ a) ⟨o,e.trans ho,q⟩
noncomputable def ownsOut (n:String):Bool:=["enumerate","zip","dict_itemiterator","dict_reverseitemiterator","odict_iterator","itertools.zip_longest","itertools.pairwise"].contains n
theorem ItAt.obj {c:Cf} {w:Wd} {h:Heap} {it:Addr} {I:It} (x:ItAt c w h it I):∃o n vs,h.get? it=some o∧o.cls=.type n∧o.data=.fields vs∧ownsOut n=false:=by
 cases x with
 |tup a=>obtain ⟨o,ho,q,r⟩:=a;exact ⟨o,_,_,ho,q,r,by decide⟩
 |lst a=>obtain ⟨o,ho,q,r⟩:=a;exact ⟨o,_,_,ho,q,r,by decide⟩
 |dic a=>obtain ⟨o,ho,q,r⟩:=a;exact ⟨o,_,_,ho,q,r,by decide⟩
 |byt a=>obtain ⟨o,ho,q,r⟩:=a;exact ⟨o,_,_,ho,q,r,by decide⟩
 |rng a=>exact ⟨_,_,_,a,rfl,rfl,by decide⟩
 |ls _ a=>obtain ⟨o,ho,q,r⟩:=a;exact ⟨o,_,_,ho,q,r,by decide⟩
 |dk _ a=>obtain ⟨o,ho,q,r⟩:=a;exact ⟨o,_,_,ho,q,r,by decide⟩
theorem ItAt.go {c:Cf} {w:Wd} {σ:Shared} {it:Addr} {I:It} (x:ItAt c w σ.heap it I) {prog:Program} {wo:World} {A:Around} {E:Value->Shared->Prop} {Q:Unit->Shared->Prop} {t:Expr} {v:Value} (h:Q () σ):
  wpAny (model prog wo) A (letOwnedTupleGo t (.ref it) v) Q E σ:=by
 obtain ⟨o,n,vs,ho,hc,hd,hn⟩:=x.obj
 have body:wpAny (model prog wo) A (match (Value.ref it),v with
   | .ref r,.ref a=>do
     let o ←load r
     match o.cls,o.data with
     | .type n,.fields vs=>
       if ["enumerate","zip","dict_itemiterator","dict_reverseitemiterator","odict_iterator","itertools.zip_longest","itertools.pairwise"].contains n&&vs[0]?==some (rawInt a) then
        rule "for.unpacks-the-owned-tuple"
        updateField r 0 .none
     |_,_=>pure ()
   |_,_=>pure ()) Q E σ:=by
  cases v with
  |ref a=>
   refine wpAny_bind (wpAny_load ho ?_)
   rw[hc,hd]
   dsimp only
   rw[if_neg (by have:(["enumerate","zip","dict_itemiterator","dict_reverseitemiterator","odict_iterator","itertools.zip_longest","itertools.pairwise"].contains n)=false:=hn
                 rw[this,Bool.false_and];exact Bool.false_ne_true)]
   exact wpAny_pure h
  |_=>exact wpAny_pure h
 unfold letOwnedTupleGo
 cases t<;>first|exact wpAny_pure h|(cases v<;>exact body)
theorem drop_cons {α:Type} {l:List α} {i:Nat} {a:α} {r:List α} (h:l.drop i=a::r):l[i]?=some a∧l.drop (i+1)=r:=by
 have e1:(l.drop i)[0]?=some a:=by rw[h];rfl
 rw[List.getElem?_drop] at e1
 refine ⟨by simpa using e1,?_⟩
 have:l.drop (i+1)=(l.drop i).drop 1:=by rw[List.drop_drop]
 rw[this,h];rfl
theorem drop_nil {α:Type} {l:List α} {i:Nat} (h:l.drop i=[]):l[i]?=none:=by
 have e1:(l.drop i)[0]?=none:=by rw[h];rfl
 rw[List.getElem?_drop] at e1
 simpa using e1
theorem nthO_true {ρ:Rho} {k:AV->Bool} {d:Bool} {xs:AV} {ds:List CD} {n:Nat} (X:ConcL ρ xs ds) (h:nthO xs n k d=true):(∃v dv,ds[n]?=some dv∧Conc ρ v dv∧k v=true)∨(ds[n]?=none∧d=true):=by
 induction X using ConcL.ind generalizing n with
 |nil=>exact .inr ⟨rfl,h⟩
 |cons C T ih=>cases n with
  |zero=>exact .inl ⟨_,_,rfl,C,h⟩
  |succ n=>exact ih (n:=n) h
theorem nthK_true {ρ:Rho} {k:AV->Bool} {d:Bool} {xs:AV} {ds:List (CD×CD)} {n:Nat} (X:ConcD ρ xs ds) (h:nthK xs n k d=true):(∃v dv u,ds[n]?=some (dv,u)∧Conc ρ v dv∧k v=true)∨(ds[n]?=none∧d=true):=by
 induction X using ConcD.ind generalizing n with
 |nil=>exact .inr ⟨rfl,h⟩
 |cons C _ T ih=>cases n with
  |zero=>exact .inl ⟨_,_,_,rfl,C,h⟩
  |succ n=>exact ih (n:=n) h
theorem keysD_conc {ρ:Rho} {xs:AV} {ds:List (CD×CD)} (X:ConcD ρ xs ds):ConcL ρ (keysD xs) (ds.map (·.1)):=ConcD.ind .nil (λa U U r=>.cons a r) X
theorem RdE.keyL {Pm:Params} {w:Wd} {h:Heap} {ds:List (CD×CD)} {es:List DictEntry} (r:RdE Pm w h ds es):RdL Pm w h (ds.map (·.1)) (es.map (·.key)):=RdE.ind .nil (λU a U U r=>.cons a r) r
section
variable {prog:Program} {wo:World} {A:Around} {E:Value->Shared->Prop} {σ:Shared}
theorem keyNext_item {it d:Addr} {i ep:Nat} {od:Obj} {es:Array DictEntry} {Q:Option Value->Shared->Prop} (hit:σ.heap.IsKeyIter it d i es.size ep) (hod:σ.heap.get? d=some od) (hdd:od.data=.dict es ep) (hlt':i<es.size)
  (hQ:∀h',h'.IsKeyIter it d (i+1) es.size ep->Heap.SameBut it σ.heap h'->Q (some es[i].key) {σ with heap:=h'}):
  wpAny (model prog wo) A (pyNext (.ref it)) Q E σ:=by
 obtain ⟨o,ho,hc,hd⟩:=id hit
 unfold pyNext
 refine wpAny_bind (wpAny_attempt (wpAny_callSpecial?_slot (name:=Str.ofString "__next__") hit.typeIs F.slot_dict_keyiterator_next
  (wpAny_call_entry F.slot_dict_keyiterator_next hit.typeIs F.entry_dict_keyiterator_next ?_ (F.args_dict_keyiterator_next_1 _))))
 refine wpAny_bind (wpAny_pure ?_)
 refine wpAny_bind ?_
 refine wpAny_bind ?_
 first|refine wpAny_bind (wpAny_typeNameOfWhole_keyiter hit.typeIs (wpAny_pure ?_))|refine wpAny_bind (wpAny_typeNameOf_keyiter hit.typeIs (wpAny_pure ?_))
 refine wpAny_bind (wpAny_fieldsOf ho hd ?_)
 show wpAny _ _ (if (Value.ref d==Value.none)=true then _ else _) _ _ σ
 rw[if_neg (show ¬((Value.ref d==Value.none)=true) from Bool.false_ne_true)]
 refine wpAny_bind (wpAny_pure ?_)
 refine wpAny_bind (wpAny_dictEntries hod hdd ?_)
 rw[if_neg (by simp)]
 refine wpAny_bind (wpAny_pure ?_)
 refine wpAny_bind (wpAny_dictEpoch hod hdd ?_)
 rw[if_neg (by simp)]
 refine wpAny_pure ?_
 simp only[show ¬((i:Int)<0) from by omega,if_false,Int.toNat_natCast,Array.getElem?_eq_getElem hlt']
 refine wpAny_bind ?_
 first|refine wpAny_bind (wpAny_typeNameOfWhole_keyiter hit.typeIs (wpAny_pure ?_))|refine wpAny_bind (wpAny_typeNameOf_keyiter hit.typeIs (wpAny_pure ?_))
 refine wpAny_bind (wpAny_isOneOf_keyiter hit.typeIs ?_)
 show wpAny _ _ (setField (.ref it) 1 (rawInt ((i:Int)+1))>>= _) _ _ σ
 refine wpAny_bind (wpAny_setField ho hd (by simp) ?_)
 have hit':(σ.heap.update it (Obj.mapFields (·.setIfInBounds 1 (rawInt ((i:Int)+1))))).IsKeyIter it d (i+1) es.size ep:=
  ⟨_,Heap.get?_update_self _ ho (Obj.isFreed_of_fields (Obj.data_mapFields hd _)),(Obj.cls_mapFields ..).trans hc,by rw[Obj.data_mapFields hd];simp[rawInt]⟩
 refine wpAny_bind (wpAny_holding ?_)
 refine wpAny_bind (wpAny_isOneOf_keyiter (s:={σ with heap:=σ.heap.update it (Obj.mapFields (·.setIfInBounds 1 (rawInt ((i:Int)+1))))}) hit'.typeIs ?_)
 show wpAny _ _ (pure es[i].key) _ _ _
 exact wpAny_pure (wpAny_pure ⟨_,rfl,wpAny_pure (hQ _ hit' (Heap.SameBut.update ..))⟩)
theorem keyNext_end {it d:Addr} {i ep:Nat} {od:Obj} {es:Array DictEntry} {Q:Option Value->Shared->Prop} (hh:A.handled=none) (hit:σ.heap.IsKeyIter it d i es.size ep) (hod:σ.heap.get? d=some od) (hdd:od.data=.dict es ep) (hge:es.size≤i)
  (hQ:∀h',Heap.ExtBut it σ.heap h'->Q none {σ with heap:=h'}):wpAny (model prog wo) A (pyNext (.ref it)) Q E σ:=by
 obtain ⟨o,ho,hc,hd⟩:=id hit
 unfold pyNext
 refine wpAny_bind (wpAny_attempt (wpAny_callSpecial?_slot (name:=Str.ofString "__next__") hit.typeIs F.slot_dict_keyiterator_next
  (wpAny_call_entry F.slot_dict_keyiterator_next hit.typeIs F.entry_dict_keyiterator_next ?_ (F.args_dict_keyiterator_next_1 _))))
 refine wpAny_bind (wpAny_pure ?_)
 refine wpAny_bind ?_
 refine wpAny_bind ?_
 first|refine wpAny_bind (wpAny_typeNameOfWhole_keyiter hit.typeIs (wpAny_pure ?_))|refine wpAny_bind (wpAny_typeNameOf_keyiter hit.typeIs (wpAny_pure ?_))
 refine wpAny_bind (wpAny_fieldsOf ho hd ?_)
 show wpAny _ _ (if (Value.ref d==Value.none)=true then _ else _) _ _ σ
 rw[if_neg (show ¬((Value.ref d==Value.none)=true) from Bool.false_ne_true)]
 refine wpAny_bind (wpAny_pure ?_)
 refine wpAny_bind (wpAny_dictEntries hod hdd ?_)
 rw[if_neg (by simp)]
 refine wpAny_bind (wpAny_pure ?_)
 refine wpAny_bind (wpAny_dictEpoch hod hdd ?_)
 rw[if_neg (by simp)]
 refine wpAny_pure ?_
 simp only[show ¬((i:Int)<0) from by omega,if_false,Int.toNat_natCast,Array.getElem?_eq_none hge]
 refine wpAny_bind ?_
 first|refine wpAny_bind (wpAny_typeNameOfWhole_keyiter hit.typeIs (wpAny_pure ?_))|refine wpAny_bind (wpAny_typeNameOf_keyiter hit.typeIs (wpAny_pure ?_))
 show wpAny _ _ (setField (.ref it) 0 .none>>= _) _ _ σ
 refine wpAny_bind (wpAny_setField ho hd (by simp) ?_)
 show wpAny _ _ (newExc (.type "StopIteration") []>>= _) _ _ _
 refine wpAny_bind ?_
 simp only[newExc,newTuple]
 refine wpAny_bind (wpAny_newObj_type ?_ (by size_fits))
 refine wpAny_bind (m:=firstArgMember _ _) (wpAny_of_eq (a:=Value.none) (by first|rfl|(simp only[firstArgMember];rfl)) ?_)
 refine wpAny_newObj_type ?_ (by size_fits)
 refine wpAny_bind (wpAny_handled ?_)
 rw[show A.in1.handled=none from hh]
 refine wpAny_bind (wpAny_pure (wpAny_throw ?_))
 refine wpAny_bind (wpAny_isInstance (T:="StopIteration") (b:=true) ⟨_,Heap.get?_push_size _ rfl,rfl⟩ isSubtype_stop ?_)
 exact wpAny_pure (hQ _ (((Heap.SameBut.update ..).extBut.push _).push _))
theorem keyIter {d:Addr} {o:Obj} {es:Array DictEntry} {ep:Nat} {Q:Value->Shared->Prop} (hd:(d==sysModules)=false) (ho:σ.heap.get? d=some o) (hc:o.ExactDict) (hdat:o.data=.dict es ep)
  (hQ:Q (.ref σ.heap.objs.size) {σ with heap:=σ.heap.push {cls:=.type "dict_keyiterator",data:=.fields #[.ref d,.int 0 0,.int es.size 0,.int ep 0]}}):
  wpAny (model prog wo) A (pyIter (.ref d)) Q E σ:=by
 have hT:σ.TypeIs (.ref d) "dict":=⟨o,ho,hc.1⟩
 refine wpAny_pyIter_slot hT F.slot_dict_iter (wpAny_call_entry F.slot_dict_iter hT F.entry_dict_iter ?_ (F.args_dict_iter_1 _))
 unfold Builtin.«dict.__iter__»
 refine wpAny_bind ?_
 unfold Builtin.Dict.dictSlotNone
 refine wpAny_bind (wpAny_notOrdered_dict hT ?_)
 show wpAny _ _ (pure (Value.ref d)) _ _ σ
 refine wpAny_pure ?_
 show wpAny _ _ (Builtin.Dict.showsAll d>>= _) _ _ σ
 unfold Builtin.Dict.showsAll
 rw[if_neg (by rw[hd];exact Bool.false_ne_true)]
 refine wpAny_bind (wpAny_pure ?_)
 refine wpAny_bind (wpAny_dictEntries ho hdat ?_)
 refine wpAny_bind (wpAny_dictEpoch ho hdat ?_)
 refine wpAny_bind (wpAny_newObj_type (wpAny_pure ⟨_,rfl,"dict_keyiterator",_,⟨_,Heap.get?_push_size _ rfl,rfl⟩,F.slot_dict_keyiterator_next.lookup,?_⟩))
 simpa[rawInt] using hQ
end
section
variable {c:Cf} {f:Fm} {w:Wd} {s:St} {σ:Shared} {A:Around} {E:Value->Shared->Prop}
theorem next_true {it:Addr} {J:It} {k:AV->It->Bool} {d:Bool} {Q:Option Value->Shared->Prop} (rel:Rel c f w s σ) (I:ItAt c w σ.heap it J) (hX:w.X it) (hW:¬w.W it) (hh:A.handled=none) (h:nxt J s k d=true)
  (item:∀v J' dv rv h' tk,k v J'=true->Heap.SameBut it σ.heap h'->(∃o,h'.get? it=some o)->ItAt c w h' it J'->Conc c.ρ v dv->Rd c.wo.params w h' dv rv->Q (some rv) {σ with heap:=h',toks:=tk})
  (fin:d=true->∀h',Heap.ExtBut it σ.heap h'->Q none {σ with heap:=h'}):wpAny (model c.prog c.wo) A (pyNext (.ref it)) Q E σ:=by
 have X:∀{h':Heap},Heap.SameBut it σ.heap h'->ExtR w σ.heap w h':=λsb=>⟨λU U x=>x,λa o e n=>(sb.2 a λq=>n (q▸hX)).trans e,λU U U q=>q⟩
 cases I with
 |@tup t o vs n i xs ds hit ho hc hd nx C r=>
  have ht:σ.heap.IsTuple t vs:=⟨o,ho,hc,n,hd⟩
  cases C with
  |nil=>
   generalize hq:vs.toList.drop i=l at r
   cases r
   exact wpAny_pyNext_tuple_end hh hit ht (by have:=drop_nil hq;simpa using this) (fin h)
  |cons C T=>
   generalize hq:vs.toList.drop i=l at r
   cases r with
   |cons r rs=>
   obtain ⟨e1,e2⟩:=drop_cons hq
   refine wpAny_pyNext_tuple_item hit ht (by simpa using e1) λh' hit' sb=>?_
   exact item _ _ _ _ h' σ.toks h sb (by obtain ⟨o,ho,_⟩:=hit';exact ⟨o,ho⟩) (.tup hit' ((X sb).keep _ _ ho nx) hc hd nx T (by rw[e2];exact rs.extR (X sb))) C (r.extR (X sb))
 |@lst t o vs n i xs ds hit ho hc hd nx C r=>
  have ht:σ.heap.IsList t vs:=⟨o,ho,hc,n,hd⟩
  cases C with
  |nil=>
   generalize hq:vs.toList.drop i=l at r
   cases r
   exact wpAny_pyNext_list_end hh hit ht (by have:=drop_nil hq;simpa using this) (fin h)
  |cons C T=>
   generalize hq:vs.toList.drop i=l at r
   cases r with
   |cons r rs=>
   obtain ⟨e1,e2⟩:=drop_cons hq
   refine wpAny_pyNext_list_item hit ht (by simpa using e1) λh' hit' sb=>?_
   exact item _ _ _ _ h' σ.toks h sb (by obtain ⟨o,ho,_⟩:=hit';exact ⟨o,ho⟩) (.lst hit' ((X sb).keep _ _ ho nx) hc hd nx T (by rw[e2];exact rs.extR (X sb))) C (r.extR (X sb))
 |@dic t o es ep i xs ds hit ho hc hd nx C r=>
  rw[List.map_drop] at r
  cases C with
  |nil=>
   generalize hq:(es.toList.map (·.key)).drop i=l at r
   cases r
   refine keyNext_end hh hit ho hd ?_ (fin h)
   have:=drop_nil hq
   simpa using this
  |cons C T=>
   generalize hq:(es.toList.map (·.key)).drop i=l at r
   cases r with
   |@cons _ _ v _ r rs=>
   obtain ⟨e1,e2⟩:=drop_cons hq
   have hlt:i<es.size:=by
    rcases Nat.lt_or_ge i es.size with q|q
    · exact q
    · rw[List.getElem?_eq_none (by simpa using q)] at e1;cases e1
   have ek:es[i].key=v:=by simpa[hlt] using e1
   refine keyNext_item hit ho hd hlt λh' hit' sb=>?_
   rw[ek]
   exact item _ _ _ _ h' σ.toks h sb (by obtain ⟨o,ho,_⟩:=hit';exact ⟨o,ho⟩) (.dic hit' ((X sb).keep _ _ ho nx) hc hd nx T (by rw[List.map_drop,e2];exact rs.extR (X sb))) C (r.extR (X sb))
 |@byt b t i xs hit C=>
  generalize hq:b.toList.drop i=l at C
  cases C with
  |nil=>exact KBw.next_end hh hit (by have:=drop_nil hq;simpa using this) (fin h)
  |cons C T=>
   obtain ⟨e1,e2⟩:=drop_cons hq
   refine KBw.next_item hit (by simpa using e1) λh' hit' sb=>?_
   exact item _ _ _ _ h' (σ.toks+1) h sb (by obtain ⟨o,ho,_⟩:=hit';exact ⟨o,ho⟩) (.byt hit' (by rw[e2];exact T)) C (.int _ _)
 |@rng y left step xs hit R=>
  cases R with
  |nil le=>exact wpAny_pyNext_range_end hh hit le (fin h)
  |cons lt T=>
   refine wpAny_pyNext_range_item hit lt λh' hit' sb=>?_
   exact item _ _ _ _ h' (σ.toks+1) h sb ⟨_,hit'⟩ (.rng hit' T) (.nat _) (.int _ _)
 |@ls p l i he hit=>
  obtain ⟨ob,ho,h⟩:=HT.get_true (show HT.get p s.hp (λo=>isList o λxs=>nthO xs i (λv=>k v (.ls p (Nat.succ i))) d)=true from h)
  obtain ⟨xs,rfl,h⟩:=isList_true h
  obtain ⟨a',b',he',_,_,O⟩:=rel.obj p _ ho
  rw[he] at he'
  cases he'
  obtain ⟨ds,vs,m,-,g,C,r,z⟩:=O
  have ht:σ.heap.IsList l vs:=⟨_,g,rfl,m,rfl⟩
  rcases nthO_true C h with ⟨v,dv,e1,Cv,hk⟩|⟨e1,hk⟩
  · obtain ⟨rv,e2,r2⟩:=r.get e1
    refine wpAny_pyNext_list_item hit ht (by simpa using e2) λh' hit' sb=>?_
    exact item _ _ _ _ h' σ.toks hk sb (by obtain ⟨o,ho,_⟩:=hit';exact ⟨o,ho⟩) (.ls he hit') Cv (r2.extR (X sb))
  · have len:=r.length
    refine wpAny_pyNext_list_end hh hit ht ?_ (fin hk)
    simp at e1 len ⊢
    omega
 |@dk p a i n ep he hit=>
  obtain ⟨ob,ho,h⟩:=HT.get_true (show HT.get p s.hp (λo=>isDict o λep' xs=>ite (and (Nat.beq ep' ep) (Nat.beq (lenD xs) n)) (nthK xs i (λv=>k v (.dk p ep n (Nat.succ i))) d) false)=true from h)
  obtain ⟨ep',kvs,rfl,h⟩:=isDict_true h
  rcases ite_true h with ⟨q,h⟩|⟨_,h⟩
  case inr=>cases h
  rw[Bool.and_eq_true] at q
  have q1:=beq_true q.1
  have q2:=beq_true q.2
  subst q1
  obtain ⟨a',b',he',_,_,O⟩:=rel.obj p _ ho
  rw[he] at he'
  cases he'
  obtain ⟨ds,es,-,C,D⟩:=O
  rw[lenD_conc C] at q2
  have len:=D.rd.length
  have e3:es.size=n:=by rw[← q2,←len];simp
  rw[← e3] at hit h
  rcases nthK_true C h with ⟨v,dv,u,e1,Cv,hk⟩|⟨e1,hk⟩
  · have hlt:i<es.size:=by
     rcases Nat.lt_or_ge i ds.length with q|q
     · omega
     · rw[List.getElem?_eq_none q] at e1;cases e1
    obtain ⟨k',u',g2,_,_,rk,_⟩:=RdE.get i es[i] D.rd (by simp[hlt])
    rw[e1] at g2
    cases g2
    refine keyNext_item hit D.at_ rfl hlt λh' hit' sb=>?_
    exact item _ _ _ _ h' σ.toks hk sb (by obtain ⟨o,ho,_⟩:=hit';exact ⟨o,ho⟩) (.dk he hit') Cv (rk.extR (X sb))
  · refine keyNext_end hh hit D.at_ rfl ?_ (fin hk)
    simp at e1
    omega
end
section
variable {c:Cf} {f:Fm} {w:Wd} {s:St} {σ:Shared}
theorem Rel.gone (R:Rel c f w s σ) {b:Addr} {h':Heap} {tk:Nat} (hX:w.X b) (hW:¬w.W b) (k:Heap.ExtBut b σ.heap h'):
  Rel c f (w.bare b hW) s {σ with heap:=h',toks:=tk}∧ExtR w σ.heap (w.bare b hW) h':=by
 have X:ExtR w σ.heap (w.bare b hW) h':=⟨λU U x=>x,λa o e n=>k a o (λq=>n (q▸hX)) e,λU U U q=>q.1⟩
 refine ⟨R.world (nx:=s.nx) X (λa h=>?_) (λU h=>h) (λa o e=>?_) (λa h=>?_) R.nx,X⟩
 · obtain ⟨o,e⟩:=R.dom a (w.sub a h)
   rw[e];exact k a o (λq=>hW (q▸h)) e
 · have:=R.base a o e
   exact ⟨k a o (λq=>this.2 (q▸hX)) this.1,λq=>this.2 q.1⟩
 · obtain ⟨o,e⟩:=R.dom a h.1
   exact ⟨o,k a o h.2 e⟩
theorem Ext.gone {w₀:Wd} {h₀ h h':Heap} (X:Ext w₀ h₀ w h) {b:Addr} (hb:¬w.W b) (h0:h₀.get? b=none) (d:∀a,w₀.X a->∃o,h₀.get? a=some o) (k:Heap.ExtBut b h h'):Ext w₀ h₀ (w.bare b hb) h' where
 eta:=X.eta
 keep a o e n:=k a o (λq=>by rw[q,h0] at e;cases e) (X.keep a o e n)
 freshX a o e q:=X.freshX a o e q.1
 freshW:=X.freshW
 stay a o e:=by obtain ⟨o',e'⟩:=X.stay a o e;exact ⟨o',k a o' (λq=>by rw[q,h0] at e;cases e) e'⟩
 mono a h:=⟨X.mono a h,λq=>by obtain ⟨o,e⟩:=d a h;rw[q,h0] at e;cases e⟩
def IterPost (c:Cf) (f:Fm) (w:Wd) (s:St) (σ:Shared) (k:It->Bool) (Q:Value->Shared->Prop):Prop:=
 ∀J it w' σ',k J=true->Rel c f w' s σ'->Ext w σ.heap w' σ'.heap->ItAt c w' σ'.heap it J->w'.X it->¬w'.W it->σ.heap.get? it=none->Q (.ref it) σ'
theorem iter_true {x:AV} {d:CD} {rv:Value} {k:It->Bool} {A:Around} {E:Value->Shared->Prop} {Q:Value->Shared->Prop} (rel:Rel c f w s σ) (C:Conc c.ρ x d) (r:Rd c.wo.params w σ.heap d rv) (h:iterOf x s k=true) (post:IterPost c f w s σ k Q):
  wpAny (model c.prog c.wo) A (pyIter rv) Q E σ:=by
 have hb:=Heap.none_size σ.heap
 have push:∀(ob:Obj),(∀a o,σ.heap.get? a=some o->(σ.heap.push ob).get? a=some o):=λob a o e=>Heap.get?_push_of_some _ e
 have nW:¬w.W σ.heap.objs.size:=λq=>by obtain ⟨o,e⟩:=rel.dom _ (w.sub _ q);rw[hb] at e;cases e
 have go:∀(ob:Obj) (J:It),ob.isFreed=false->k J=true->ItAt c (w.shield σ.heap.objs.size) (σ.heap.push ob) σ.heap.objs.size J->Q (.ref σ.heap.objs.size) {σ with heap:=σ.heap.push ob}:=λob J hf hk I=>by
  obtain ⟨rel',X'⟩:=rel.shield (tk:=σ.toks) hb (push ob) ⟨_,Heap.get?_push_size _ hf⟩
  exact post J _ _ _ hk rel' X' I (.inr rfl) nW hb
 have nX:∀{a:Addr} {o:Obj},σ.heap.get? a=some o->¬w.X a->¬(w.shield σ.heap.objs.size).X a:=λe n q=>q.elim n λz=>by rw[z,hb] at e;cases e
 have ER:∀ob,ExtR w σ.heap (w.shield σ.heap.objs.size) (σ.heap.push ob):=λob=>⟨λU U x=>x,λa o e U=>push ob a o e,λa o e q=>q.elim id λz=>by rw[z,hb] at e;cases e⟩
 cases C with
 |tup C=>
  cases r with
  |@tup t o vs n _ ho hc hd nx rs=>
  exact wpAny_pyIter_tuple ⟨o,ho,hc,n,hd⟩ (go _ _ rfl h (.tup (i:=0) ⟨_,Heap.get?_push_size _ rfl,rfl,rfl⟩ (push _ _ _ ho) hc hd (nX ho nx.1) C (rs.extR (ER _))))
 |lst C=>
  cases r with
  |@lst t o vs n _ ho hc hd nx rs=>
  exact wpAny_pyIter_list ⟨o,ho,hc,n,hd⟩ (go _ _ rfl h (.lst (i:=0) ⟨_,Heap.get?_push_size _ rfl,rfl,rfl⟩ (push _ _ _ ho) hc hd (nX ho nx.1) C (rs.extR (ER _))))
 |byt C=>
  cases r with
  |bytes b t=>exact KBw.pyIter_bytes (go _ _ rfl h (.byt (i:=0) ⟨_,Heap.get?_push_size _ rfl,rfl,rfl⟩ C))
 |dic C=>
  cases r with
  |@dic t o es ep _ ho ex hd nx re nd=>
  exact keyIter ex.2 ho ex.1 hd (go _ _ rfl h (.dic (i:=0) ⟨_,Heap.get?_push_size _ rfl,rfl,rfl⟩ (push _ _ _ ho) ex.1 hd (nX ho nx.1) (keysD_conc C) (by simpa using re.keyL.extR (ER _))))
 |loc p=>
  cases r with
  |loc hp=>
  obtain ⟨ob,ho,h⟩:=HT.get_true (show HT.get p s.hp (λo=>AObj.rec (motive:=λU=>Bool) (λU=>k (.ls p 0)) (λep xs=>k (.dk p ep (lenD xs) 0)) (λU U=>false) o)=true from h)
  obtain ⟨a',b',he',_,_,O⟩:=rel.obj p _ ho
  rw[hp] at he'
  cases he'
  cases ob with
  |list xs=>
   obtain ⟨ds,vs,n,rfl,g,C,r,z⟩:=O
   exact wpAny_pyIter_list ⟨_,g,rfl,n,rfl⟩ (go _ _ rfl h (.ls (i:=0) hp ⟨_,Heap.get?_push_size _ rfl,rfl,rfl⟩))
  |dict ep kvs=>
   obtain ⟨ds,es,rfl,C,D⟩:=O
   have e:lenD kvs=es.size:=by rw[lenD_conc C,←D.rd.length];simp
   have h:k (.dk p ep (lenD kvs) 0)=true:=h
   rw[e] at h
   exact keyIter D.sys D.at_ ⟨rfl,rfl,rfl⟩ rfl (go _ _ rfl h (.dk (i:=0) hp ⟨_,Heap.get?_push_size _ rfl,rfl,rfl⟩))
  |inst q kvs=>exact fF h
 |_=>exact fF h
end
section
variable {c:Cf} {lvl:Nat} {x:Cx}
noncomputable def noSet (e:Expr):Bool:=onSet e (λU=>true) λU U U=>false
theorem noSet_folded {e:Expr} {env:Env} {v:Value} (h:noSet e=true):foldedSetIterable e env v=pure v:=by
 cases e<;>first|rfl|cases h
def SoundI (c:Cf) (lvl:Nat) (x:Cx) (e:Expr) (I:I):Prop:=
 noSet e=true∧∀f w s σ A (Q:Value->Shared->Prop) E k,FrOK x f->I s k=true->Rel c f w s σ->Room A lvl->
  (∀J it s' w' σ',k J s'=true->Rel c f w' s' σ'->Ext w σ.heap w' σ'.heap->ItAt c w' σ'.heap it J->w'.X it->¬w'.W it->σ.heap.get? it=none->Q (.ref it) σ')->
    wpAny (model c.prog c.wo) A (eval e f.cur) (λv σ'=>wpAny (model c.prog c.wo) A (pyIter v) Q E σ') E σ
theorem sound_itE {e:Expr} {a:C} (hn:noSet e=true) (H:SoundE c lvl x e a):SoundI c lvl x e (itE a):=by
 refine ⟨hn,?_⟩
 intro f w s σ A Q E k fo h rel rm post
 refine H f w s σ A _ E _ fo h rel rm ?_
 intro v s1 w1 σ1 d rv e1 rel1 X1 C1 r1
 refine iter_true rel1 C1 r1 e1 ?_
 intro J it w' σ' hk rel' X' I hX hW h0
 refine post J it s1 w' σ' hk rel' (X1.trans X') I hX hW ?_
 cases q:σ.heap.get? it with
 |none=>rfl
 |some o=>obtain ⟨o',e'⟩:=X1.stay it o q;rw[h0] at e';cases e'
set_option tactic.hygienic true in
theorem sound_for {t e:Expr} {b:List Stmt} {T:A} {I:I} {B:S} {pos:Pos} (H:SoundI c lvl x e I) (K:SoundA c lvl x t T) (L:SoundS c lvl x b B):SoundX c lvl x (.For t e b [] pos) (forS T I B):=by
 intro f w s σ A Q E n r k fo h rel rm pn pr pk
 have h:I s (λx s=>forL T B 100 x s n r)=true:=h
 refine wpAny_For (H.2 f w s σ A _ E _ fo h rel rm ?_) λv=>noSet_folded H.1
 intro J it s1 w1 σ1 e1 rel1 X1 I1 hX hW h0
 refine codeAny_forLoop_any (λj σ'=>∃J s' w',forL T B j J s' n r=true∧Rel c f w' s' σ'∧Ext w σ.heap w' σ'.heap∧ItAt c w' σ'.heap it J∧w'.X it∧¬w'.W it) ?_ 100 ⟨J,s1,w1,e1,rel1,X1,I1,hX,hW⟩
 intro j σ2 h9;obtain ⟨J,s2,w2,e2,rel2,X2,I2,hX,hW⟩:=h9
 cases j with
 |zero=>exact fF e2
 |succ j=>
  have e2:nxt J s2 (λh it=>T h s2 λs=>B s (λs=>forL T B j it s n r) r (λs=>forL T B j it s n r)) (n s2)=true:=e2
  refine next_true rel2 I2 hX hW rm.handled e2 ?_ ?_
  · intro v J' dv rv h' tk ev sb alive I3 C3 r3
    obtain ⟨rel3,ER⟩:=rel2.side (tk:=tk) hX hW sb alive
    have X3:=X2.side h0 sb
    dsimp only
    refine ItAt.go (σ:={σ2 with heap:=h',toks:=tk}) I3 ?_
    refine K f w2 s2 {σ2 with heap:=h',toks:=tk} A _ _ _ v dv rv fo ev rel3 rm C3 r3 ?_
    intro s4 w4 σ4 e4 rel4 X4
    have next:∀(s5:St) (w5:Wd) (σ5:Shared),forL T B j J' s5 n r=true->Rel c f w5 s5 σ5->Ext w4 σ4.heap w5 σ5.heap->∃m,m<j+1∧∃J s' w',forL T B m J s' n r=true∧Rel c f w' s' σ5∧Ext w σ.heap w' σ5.heap∧ItAt c w' σ5.heap it J∧w'.X it∧¬w'.W it:=by
     intro s5 w5 σ5 e5 rel5 X5
     have X45:=X4.trans X5
     obtain ⟨oi,hoi⟩:=alive
     obtain ⟨g,hX5,hW5⟩:=X45.shielded hoi hX hW
     exact ⟨j,Nat.lt_succ_self j,J',s5,w5,e5,rel5,X3.trans X45,I3.ext X45.r (g.trans hoi.symm),hX5,hW5⟩
    refine L f w4 s4 σ4 A _ _ _ _ _ fo e4 rel4 rm ?_ ?_ ?_
    · exact λs5 w5 σ5 e5 rel5 X5=>next s5 w5 σ5 e5 rel5 X5
    · exact λv s5 w5 σ5 d rv e5 rel5 X5 C5 r5=>pr v s5 w5 σ5 d rv e5 rel5 (X3.trans (X4.trans X5)) C5 r5
    · exact λs5 w5 σ5 e5 rel5 X5=>next s5 w5 σ5 e5 rel5 X5
  · intro en h' eb
    obtain ⟨rel3,ER⟩:=rel2.gone (tk:=σ2.toks) hX hW eb
    exact wpAny_pure (pn s2 _ _ en rel3 (X2.gone hW h0 rel.dom eb))
end
theorem lookup_zip_none {n:Str}:∀{ns:List Str} {vs:List Value},n∉ns->(ns.zip vs).lookup n=none
 |[],_,_=>by simp
 |m::ns,[],_=>by simp
 |m::ns,v::vs,h=>by
  rw[List.zip_cons_cons,List.lookup_cons]
  have:(n==m)=false:=by
   cases q:n==m with
   |false=>rfl
   |true=>exact absurd (by rw[eq_of_beq q];exact List.mem_cons_self) h
  rw[this]
  exact lookup_zip_none λq=>h (List.mem_cons_of_mem _ q)
theorem filterMap_zip:∀{ns:List Str} {vs:List Value},ns.Nodup->ns.length=vs.length->(ns.filterMap λn=>((ns.zip vs).lookup n).map (n,·))=ns.zip vs:=by
 have key:∀{pre ns:List Str} {pv vs:List Value},(pre++ns).Nodup->pre.length=pv.length->ns.length=vs.length->(ns.filterMap λn=>(((pre++ns).zip (pv++vs)).lookup n).map (n,·))=ns.zip vs:=by
  intro pre ns
  induction ns generalizing pre with
  |nil=>intro pv vs _ _ e;simp
  |cons n ns ih=>
   intro pv vs nd e1 e2
   cases vs with
   |nil=>cases e2
   |cons v vs=>
    have hn:n∉pre:=λq=>by
     rw[List.nodup_append] at nd
     exact nd.2.2 n q n List.mem_cons_self rfl
    have e:((pre++n::ns).zip (pv++v::vs)).lookup n=some v:=by
     rw[List.zip_append e1,List.lookup_append,lookup_zip_none hn]
     simp
    rw[List.filterMap_cons,e]
    have:=ih (pre:=pre++[n]) (pv:=pv++[v]) (vs:=vs) (by simpa using nd) (by simp[e1]) (by simpa using e2)
    simp only[List.append_assoc,List.singleton_append] at this
    dsimp only[Option.map_some]
    rw[this];rfl
 intro ns vs nd e
 exact key (pre:=[]) (pv:=[]) nd rfl e
structure Plain (fd:FuncData) (ns:List Str):Prop where
 po:fd.params.posonlyargs=[]
 ar:fd.params.args.map (·.arg)=ns
 va:fd.params.vararg=none
 ko:fd.params.kwonlyargs=[]
 ka:fd.params.kwarg=none
 nd:ns.Nodup
def Dflt (h:Heap) (fd:FuncData) (dv:List Value):Prop:=(fd.defaults=.none∧dv=[])∨∃T o n,fd.defaults=.ref T∧h.get? T=some o∧o.data=.seq dv.toArray n
theorem nd_seqItems {M:Model} {A:Around} {E:Value->Shared->Prop} {Q:Option (Array Value)->Shared->Prop} {σ:Shared} {fd:FuncData} {dv:List Value} (D:Dflt σ.heap fd dv) (h:∀r,r.getD #[]=dv.toArray->Q r σ):wpAny M A (seqItems? fd.defaults) Q E σ:=by
 rcases D with ⟨e,rfl⟩|⟨T,o,n,e,ho,hd⟩
 · rw[e];exact wpAny_pure (h none rfl)
 · rw[e];exact wpAny_seqItems ho hd (h _ rfl)
noncomputable def addN (s:List (Str×Value)) (x:Str×Value):List (Str×Value):=if (s.lookup x.1).isNone then s++[x] else s
set_option tactic.hygienic true in
theorem forIn_addN {M:Model} {A:Around} {E:Value->Shared->Prop} {Q:List (Str×Value)->Shared->Prop} {σ:Shared}:∀(l s:List (Str×Value)),Q (l.foldl addN s) σ->
  wpAny M A (forIn l s λx (r:List (Str×Value))=>if (r.lookup x.1).isNone=true then pure (ForInStep.yield (r++[(x.1,x.2)])) else pure (ForInStep.yield r)) Q E σ
 |[],s,h=>by rw[List.forIn_nil];exact wpAny_pure h
 |x::l,s,h=>by
  rw[List.forIn_cons]
  rw[List.foldl_cons] at h
  unfold addN at h
  split
  · rename_i q
    rw[if_pos q] at h
    exact wpAny_bind (wpAny_pure (forIn_addN l _ h))
  · rename_i q
    rw[if_neg q] at h
    exact wpAny_bind (wpAny_pure (forIn_addN l _ h))
theorem fold_same:∀{l s:List (Str×Value)},(∀x∈l,(s.lookup x.1).isNone=false)->l.foldl addN s=s
 |[],_,_=>rfl
 |x::l,s,h=>by
  rw[List.foldl_cons]
  have:addN s x=s:=by unfold addN;rw[h x List.mem_cons_self];rfl
  rw[this]
  exact fold_same λy hy=>h y (List.mem_cons_of_mem _ hy)
theorem fold_new:∀{l s:List (Str×Value)},(l.map (·.1)).Nodup->(∀x∈l,s.lookup x.1=none)->l.foldl addN s=s++l
 |[],s,_,_=>by simp
 |x::l,s,nd,h=>by
  rw[List.foldl_cons]
  have:addN s x=s++[x]:=by unfold addN;rw[h x List.mem_cons_self];rfl
  rw[this]
  rw[List.map_cons,List.nodup_cons] at nd
  rw[fold_new nd.2 λy hy=>?_,List.append_assoc];· rfl
  rw[List.lookup_append,h y (List.mem_cons_of_mem _ hy)]
  have:(y.1==x.1)=false:=by
   cases q:y.1==x.1 with
   |false=>rfl
   |true=>exact absurd (by rw[← eq_of_beq q];exact List.mem_map_of_mem hy) nd.1
  rw[List.lookup_cons,this];rfl
theorem lookup_zip_mem {n:Str}:∀{ns:List Str} {vs:List Value},n∈ns.take vs.length->((ns.zip vs).lookup n).isNone=false
 |[],vs,h=>by simp at h
 |m::ns,[],h=>by simp at h
 |m::ns,v::vs,h=>by
  rw[List.zip_cons_cons,List.lookup_cons]
  cases q:n==m with
  |true=>rfl
  |false=>
   rw[List.length_cons,List.take_succ_cons] at h
   rcases List.mem_cons.mp h with rfl|h
   · simp at q
   · exact lookup_zip_mem h
theorem bind_plain {M:Model} {A:Around} {E:Value->Shared->Prop} {Q:List (Str×Value)->Shared->Prop} {σ:Shared} {fd:FuncData} {ns:List Str} {vs dv:List Value} (P:Plain fd ns) (D:Dflt σ.heap fd dv)
  (h1:vs.length≤ns.length) (h2:dv.length≤ns.length) (h3:ns.length≤vs.length+dv.length) (h:Q (ns.zip (vs++dv.drop (vs.length+dv.length-ns.length))) σ):wpAny M A (bindArgs fd ⟨vs,[]⟩) Q E σ:=by
 unfold bindArgs
 simp only[P.po,P.ar,P.ko,P.va,P.ka,List.map_nil,List.nil_append,List.forIn_nil]
 refine wpAny_bind (wpAny_pure ?_)
 refine wpAny_bind (nd_seqItems D λr hr=>?_)
 rw[hr]
 have e1:(dv.length-ns.length)=0:=by omega
 have e2:(decide (vs.length>ns.length)&&(none:Option Arg).isNone)=false:=by
  rw[decide_eq_false (by omega)];rfl
 simp only[e2,e1,List.drop_zero,Bool.false_eq_true,if_false]
 have e3:List.filter (λn=>(List.lookup n (ns.zip vs)).isNone) (List.take (ns.length-dv.length) ns)=[]:=by
  rw[List.filter_eq_nil_iff]
  intro n hn
  have:n∈ns.take vs.length:=by
   have:ns.take (ns.length-dv.length)=(ns.take vs.length).take (ns.length-dv.length):=by rw[List.take_take];congr 1;omega
   rw[this] at hn
   exact List.mem_of_mem_take hn
  rw[lookup_zip_mem this];decide
 rw[e3]
 refine ifn Bool.false_ne_true ?_
 refine wpAny_bind (forIn_addN _ _ ?_)
 refine wpAny_bind (wpAny_pure ?_)
 simp only[List.isEmpty_nil,Bool.not_true,Bool.false_eq_true,if_false,List.append_nil]
 refine wpAny_pure ?_
 have nd:=P.nd
 generalize hg:vs.length=g at*
 obtain ⟨t,ht⟩:∃t,t=g+dv.length-ns.length:=⟨_,rfl⟩
 rw[← ht] at h
 obtain ⟨b,hb⟩:∃b,b=ns.length-dv.length:=⟨_,rfl⟩
 rw[← hb]
 have split:ns=ns.take g++ns.drop g:=(List.take_append_drop g ns).symm
 have a:ns.drop b=(ns.drop b).take t++ns.drop g:=by
  conv=>lhs;rw[← List.take_append_drop t (ns.drop b)]
  rw[List.drop_drop]
  congr 2;omega
 have e4:(ns.drop b).zip dv=((ns.drop b).take t).zip (dv.take t)++(ns.drop g).zip (dv.drop t):=by
  have:=List.zip_append (l₁:=(ns.drop b).take t) (r₁:=ns.drop g) (l₂:=dv.take t) (r₂:=dv.drop t) (by simp;omega)
  rw[← a,List.take_append_drop] at this
  exact this
 have e5:ns.zip vs=(ns.take g).zip vs:=by
  have:=List.zip_append (l₁:=ns.take g) (r₁:=ns.drop g) (l₂:=vs) (r₂:=[]) (by simp;omega)
  rw[List.take_append_drop,List.append_nil] at this
  rw[this];simp
 have s1:(((ns.drop b).take t).zip (dv.take t)).foldl addN (ns.zip vs)=ns.zip vs:=by
  refine fold_same λx hx=>lookup_zip_mem ?_
  rw[hg]
  have hx':=(List.of_mem_zip hx).1
  have e7:(ns.drop b).take t=(ns.take g).drop b:=by
   rw[List.drop_take];congr 1;omega
  rw[e7] at hx'
  exact List.mem_of_mem_drop hx'
 have s2:((ns.drop g).zip (dv.drop t)).foldl addN (ns.zip vs)=ns.zip vs++(ns.drop g).zip (dv.drop t):=by
  refine fold_new ?_ λx hx=>?_
  · rw[List.map_fst_zip (by simp;omega)]
    exact List.Nodup.sublist (List.drop_sublist g ns) nd
  · rw[e5]
    refine lookup_zip_none λq=>?_
    have hx':=(List.of_mem_zip hx).1
    rw[split,List.nodup_append] at nd
    exact nd.2.2 x.1 q x.1 hx' rfl
 have e6:((ns.drop b).zip dv).foldl addN (ns.zip vs)=ns.zip (vs++dv.drop t):=by
  rw[e4,List.foldl_append,s1,s2,e5]
  have:=List.zip_append (l₁:=ns.take g) (r₁:=ns.drop g) (l₂:=vs) (r₂:=dv.drop t) (by simp;omega)
  rw[List.take_append_drop] at this
  exact this.symm
 rw[e6,filterMap_zip nd (by simp[hg];omega)]
 exact h
noncomputable def w0:Wd:=⟨λU=>none,λU=>False,λU=>False,λU h=>h⟩
theorem Rel.toBase {c:Cf} {f:Fm} {w:Wd} {s:St} {σ:Shared} (R:Rel c f w s σ):ExtR w0 c.base w σ.heap:=⟨λU U e=>(nomatch e),λa o e U=>(R.base a o e).1,λa o e q=>absurd q (R.base a o e).2⟩
inductive PsAt:NL->List Str->Prop
 |nil:PsAt .nil []
 |cons {n:Str} {ps:NL} {ns:List Str}:okS n=true->PsAt ps ns->PsAt (.cons (sc n) ps) (n::ns)
inductive BdAt (c:Cf) (w:Wd) (h:Heap):VL->List Str->List Value->Prop
 |nil:BdAt c w h .nil [] []
 |cons {n:Str} {v:AV} {l:VL} {ns:List Str} {d:CD} {rv:Value} {rvs:List Value}:okS n=true->Conc c.ρ v d->Rd c.wo.params w h d rv->BdAt c w h l ns rvs->BdAt c w h (.cons (sc n) v l) (n::ns) (rv::rvs)
def DsAt (c:Cf) (ds:VL) (ns:List Str) (dv:List Value):Prop:=
 ∀(j:Nat) (n:Str) (v:AV),ns[j]?=some n->VL.find (sc n) ds=some v->∃i rv d,i+ns.length=j+dv.length∧dv[i]?=some rv∧Conc c.ρ v d∧Rd c.wo.params w0 c.base d rv
def bindA (ds:VL) (x:Nat) (ih:AV->(VL->Bool)->Bool) (vs:AV) (k:VL->Bool):Bool:=
 AV.rec (motive:=λU=>Bool) false (λU=>false) (λU=>false) (λU=>false) (λU U=>false) (λU U=>false) false (λU=>false) false (λU U=>false) (λU U=>false) (λU U=>false) (λU U=>false) (λU=>false) (VL.get x ds λv=>ih .nil λl=>k (.cons x v l)) (λh t U U=>ih t λl=>k (.cons x h l)) (λU U U U U U=>false) vs
section
variable {c:Cf} {f:Fm} {w:Wd} {s:St} {σ:Shared}
theorem bindP_true (R:Rel c f w s σ) {ds:VL} {ns:List Str} {dv:List Value} (hd:DsAt c ds ns dv) (hl:dv.length≤ns.length):∀{ps:NL} {suf:List Str} {j:Nat} {vs:AV} {dvs:List CD} {rvs:List Value} {k:VL->Bool},
  ns.drop j=suf->PsAt ps suf->ConcL c.ρ vs dvs->RdL c.wo.params w σ.heap dvs rvs->bindP ds ps vs k=true->
  ∃l,k l=true∧rvs.length≤suf.length∧suf.length≤rvs.length+dv.length∧BdAt c w σ.heap l suf (rvs++dv.drop (rvs.length+dv.length-suf.length)):=by
 intro ps
 induction ps with
 |nil=>
  intro suf j vs dvs rvs k hs P C r h
  obtain ⟨rfl,h⟩:=isNil_true (show isNil vs (k .nil)=true from h)
  cases P
  cases C
  cases r
  refine ⟨.nil,h,Nat.le_refl _,Nat.zero_le _,?_⟩
  simp only[List.length_nil,Nat.zero_add,Nat.sub_zero,List.drop_length,List.append_nil]
  exact .nil
 |cons x ps ih=>
  intro suf j vs dvs rvs k hs P C r h
  cases P with
  |@cons n _ ns' ok P=>
  have hn:ns[j]?=some n∧ns.drop (j+1)=ns':=drop_cons hs
  have hj:j<ns.length:=by
   rcases Nat.lt_or_ge j ns.length with q|q
   · exact q
   · rw[List.getElem?_eq_none q] at hn;cases hn.1
  have len:ns'.length+1+j=ns.length:=by rw[← hn.2,List.length_drop];omega
  have h:bindA ds (sc n) (bindP ds ps) vs k=true:=h
  cases C with
  |nil=>
   cases r
   obtain ⟨v,hv,h⟩:=VL.get_true (show VL.get (sc n) ds (λv=>bindP ds ps .nil λl=>k (.cons (sc n) v l))=true from h)
   obtain ⟨i,rv,d,hi,hd',C,r⟩:=hd j n v hn.1 hv
   obtain ⟨l,hk,l1,l2,B⟩:=ih hn.2 P .nil .nil h
   refine ⟨_,hk,Nat.zero_le _,?_,?_⟩
   · simp at l2 ⊢;omega
   · simp only[List.length_nil,Nat.zero_add,List.nil_append,List.length_cons] at B ⊢
     have e:dv.drop (dv.length-(ns'.length+1))=rv::dv.drop (dv.length-ns'.length):=by
      have hlt:i<dv.length:=by
       rcases Nat.lt_or_ge i dv.length with q|q
       · exact q
       · rw[List.getElem?_eq_none q] at hd';cases hd'
      have e1:dv.length-(ns'.length+1)=i:=by omega
      have e2:dv.length-ns'.length=i+1:=by omega
      rw[e1,e2,List.drop_eq_getElem_cons hlt]
      congr 1
      rw[List.getElem?_eq_getElem hlt] at hd'
      exact Option.some.inj hd'
     rw[e]
     exact .cons ok C (r.extR R.toBase) B
  |cons C CT=>
   cases r with
   |cons r rs=>
   obtain ⟨l,hk,l1,l2,B⟩:=ih hn.2 P CT rs (show bindP ds ps _ (λl=>k (.cons (sc n) _ l))=true from h)
   refine ⟨_,hk,by simpa using l1,by simp;omega,?_⟩
   simp only[List.length_cons,List.cons_append]
   rw[show ∀a b:Nat,a+1+dv.length-(b+1)=a+dv.length-b from λa b=>by omega]
   exact .cons ok C r B
end
noncomputable def Wd.call (w:Wd) (f g:Fm):Wd:=⟨w.eta,λa=>w.X a∨g.Own a,λa=>(w.W a∧¬f.Own a)∨g.Own a,λa h=>h.elim (λq=>.inl (w.sub a q.1)) .inr⟩
noncomputable def Wd.ret (w:Wd) (f g:Fm) (h:∀a,f.Own a->w.X a):Wd:=⟨w.eta,w.X,λa=>(w.W a∧¬g.Own a)∨f.Own a,λa q=>q.elim (λq=>w.sub a q.1) (h a)⟩
section
variable {c:Cf} {f g:Fm} {w:Wd} {s:St} {σ:Shared}
theorem Rel.aliveOwn (R:Rel c f w s σ) {a:Addr} (h:f.Own a):∃o,σ.heap.get? a=some o:=R.dom a (w.sub a (R.own a h))
theorem Rel.call (R:Rel c f w s σ) {h':Heap} {tk:Nat} {l:VL} {ns:List Str} {rvs:List Value} (hg:g.comp=none) (k:∀a o,σ.heap.get? a=some o->h'.get? a=some o) (fresh:∀a,g.Own a->σ.heap.get? a=none)
  (B:BdAt c w σ.heap l ns rvs) (nd:ns.Nodup) (hH:∀n rv,(n,rv)∈ns.zip rvs->Holds g.env h' n rv) (hns:∃m,h'.Ns g.env.locals m) (hc:∀x∈g.env.cells,∃v,h'.IsCell x.2 v) (hne:∀x∈g.env.cells,x.2≠g.env.locals)
  (hi:∀x∈g.env.cells,∀y∈g.env.cells,x.2=y.2->x.1=y.1) (bd:BL) (hbd:bd=s.bd):
  Rel c g (w.call f g) ⟨l,.nil,s.hp,s.nx,bd⟩ {σ with heap:=h',toks:=tk}∧ExtR w σ.heap (w.call f g) h':=by
 have E:ExtR w σ.heap (w.call f g) h':=⟨λU U e=>e,λa o e U=>k a o e,λa o e q=>q.elim id λq=>by rw[fresh a q] at e;cases e⟩
 refine ⟨{
  bd:=hbd▸R.bd
  vars:=λx v e=>?_
  cvars:=λx v e=>(nomatch (show (none:Option AV)=some v from e))
  ns:=hns
  cells:=hc
  cellNe:=hne
  cellInj:=hi
  comp:=λs c a e=>(by rw[hg] at e;cases e)
  own:=λa h=>.inr h
  obj:=λp o e=>?_
  inj:=R.inj
  nx:=R.nx
  base:=λa o e=>⟨k a o (R.base a o e).1,λq=>q.elim (R.base a o e).2 λq=>by have:=(R.base a o e).1;rw[fresh a q] at this;cases this⟩
  dom:=λa h=>?_
  rest:=by obtain ⟨h,tk',e⟩:=R.rest;exact ⟨h',tk,by rw[e]⟩
  pin:=R.pin},E⟩
 · have key:∀{l:VL} {ns:List Str} {rvs:List Value},BdAt c w σ.heap l ns rvs->VL.find x l=some v->∃n d rv,sc n=x∧okS n=true∧Conc c.ρ v d∧Rd c.wo.params w σ.heap d rv∧(n,rv)∈ns.zip rvs:=by
    intro l ns rvs B
    induction B with
    |nil=>intro e;cases e
    |@cons n v' l ns d rv rvs ok C r B ih=>
     intro e
     rw[VL.find_c] at e
     cases q:Nat.beq (sc n) x with
     |true=>
      rw[q] at e
      cases e
      exact ⟨n,d,rv,beq_true q,ok,C,r,List.mem_cons_self⟩
     |false=>
      rw[q] at e
      obtain ⟨n',d',rv',a,b,e1,e2,e3⟩:=ih e
      exact ⟨n',d',rv',a,b,e1,e2,List.mem_cons_of_mem _ e3⟩
   obtain ⟨n,d,rv,a,b,e1,e2,e3⟩:=key B e
   exact ⟨n,d,rv,a,b,e1,e2.extR E,hH n rv e3⟩
 · obtain ⟨a,b,h1,h2,h3,O⟩:=R.obj p o e
   obtain ⟨x,hx⟩:=O.here
   refine ⟨a,b,h1,.inl ⟨h2,h3⟩,(λq=>by rw[fresh b q] at hx;cases hx),O.keepR E ((k _ _ hx).trans hx.symm) (.inl ⟨h2,h3⟩)⟩
 · rcases h with h|h
   · obtain ⟨o,e⟩:=R.dom a h;exact ⟨o,k a o e⟩
   · rcases h with h|⟨x,hx,h⟩|⟨sc,cl,h⟩
     · obtain ⟨m,o,_,_,e,_⟩:=hns;exact ⟨o,h▸e⟩
     · obtain ⟨v,o,e,_⟩:=hc x hx;exact ⟨o,h▸e⟩
     · rw[hg] at h;cases h
theorem Rel.back (R:Rel c f w s σ) {h':Heap} {w':Wd} {s':St} {σ':Shared} (k:∀a o,σ.heap.get? a=some o->h'.get? a=some o) (fresh:∀a,g.Own a->σ.heap.get? a=none)
  (R':Rel c g w' s' σ') (E':Ext (w.call f g) h' w' σ'.heap) (x:∀a,f.Own a->w'.X a):Rel c f (w'.ret f g x) (back s s') σ'∧Ext w σ.heap (w'.ret f g x) σ'.heap:=by
 have nO:∀a o,σ.heap.get? a=some o->¬g.Own a:=λa o e q=>by rw[fresh a q] at e;cases e
 have keep:∀a o,σ.heap.get? a=some o->(¬w.W a∨f.Own a)->σ'.heap.get? a=some o:=λa o e n=>E'.keep a o (k a o e) λq=>by
  rcases q with ⟨q1,q2⟩|q
  · exact n.elim (λn=>n q1) q2
  · exact nO a o e q
 have fX:∀a o,σ.heap.get? a=some o->w'.X a->w.X a:=λa o e q=>(E'.freshX a o (k a o e) q).elim id λq=>absurd q (nO a o e)
 have fW:∀a o,σ.heap.get? a=some o->w'.W a->w.W a∧¬f.Own a:=λa o e q=>(E'.freshW a o (k a o e) q).elim id λq=>absurd q (nO a o e)
 have E:Ext w σ.heap (w'.ret f g x) σ'.heap:={
  eta:=λp q e=>E'.eta p q e
  keep:=λa o e n=>keep a o e (.inl n)
  freshX:=fX
  freshW:=λa o e q=>q.elim (λq=>(fW a o e q.1).1) λq=>R.own a q
  stay:=λa o e=>E'.stay a o (k a o e)
  mono:=λa h=>E'.mono a (.inl h)}
 have ER:ExtR w' σ'.heap (w'.ret f g x) σ'.heap:=⟨λU U e=>e,λU U e U=>e,λU U U q=>q⟩
 have kl:∀o,σ.heap.get? f.env.locals=some o->σ'.heap.get? f.env.locals=some o:=λo e=>keep _ o e (.inr (.inl rfl))
 have kc:∀x∈f.env.cells,∀o,σ.heap.get? x.2=some o->σ'.heap.get? x.2=some o:=λx hx o e=>keep _ o e (.inr (.inr (.inl ⟨x,hx,rfl⟩)))
 have kk:∀s c a,f.comp=some (s,c,a)->∀o,σ.heap.get? a=some o->σ'.heap.get? a=some o:=λs c a q o e=>keep _ o e (.inr (.inr (.inr ⟨s,c,q⟩)))
 refine ⟨{
  bd:=R'.bd
  vars:=λx v e=>(R.vars x v e).ext E λn u H=>H.keep kl kc
  cvars:=λx v e=>(R.cvars x v e).ext E λn u H=>H.keep kk
  ns:=by obtain ⟨m,hn⟩:=R.ns;exact ⟨m,hn.at' kl⟩
  cells:=λx hx=>by obtain ⟨v,o,ho,hd⟩:=R.cells x hx;exact ⟨v,o,kc x hx o ho,hd⟩
  cellNe:=R.cellNe
  cellInj:=R.cellInj
  comp:=λs c a e=>by obtain ⟨⟨m,hm⟩,r⟩:=R.comp s c a e;exact ⟨⟨m,hm.at' (kk s c a e)⟩,r⟩
  own:=λa h=>.inr h
  obj:=λp o e=>?_
  inj:=R'.inj
  nx:=R'.nx
  base:=R'.base
  dom:=R'.dom
  rest:=R'.rest
  pin:=R'.pin},E⟩
 obtain ⟨a,b,h1,h2,h3,O⟩:=R'.obj p o e
 have nf:¬f.Own b:=λq=>by
  obtain ⟨ob,eb⟩:=R.aliveOwn q
  exact (fW b ob eb h2).2 q
 exact ⟨a,b,h1,.inl ⟨h2,h3⟩,nf,O.keepR ER rfl (.inl ⟨h2,h3⟩)⟩
end
set_option tactic.hygienic true in
theorem cellsFrom_has {n:Str}:∀{names:List (Str×NameKind)} {k:Nat} {acc:List (Str×Addr)},((n,NameKind.cell)∈names∨(acc.lookup n).isSome=true)->((cellsFrom k names acc).lookup n).isSome=true
 |[],k,acc,h=>by
  rcases h with h|h
  · cases h
  · exact h
 |(m,kd)::r,k,acc,h=>by
  unfold cellsFrom
  split
  · refine cellsFrom_has ?_
    rcases h with h|h
    · rcases List.mem_cons.mp h with e|h
      · cases e;right;simp
      · exact .inl h
    · right
      rw[List.lookup_cons]
      split
      · rfl
      · exact h
  · rename_i q
    refine cellsFrom_has ?_
    rcases h with h|h
    · rcases List.mem_cons.mp h with e|h
      · cases e;simp at q
      · exact .inl h
    · exact .inr h
theorem lookup_nodup:∀{l:List (Str×Addr)} {n:Str} {a:Addr},(l.map (·.1)).Nodup->(n,a)∈l->l.lookup n=some a
 |[],_,_,_,h=>nomatch h
 |(m,b)::l,n,a,nd,h=>by
  rw[List.map_cons,List.nodup_cons] at nd
  rw[List.lookup_cons]
  rcases List.mem_cons.mp h with e|h
  · cases e;simp
  · have:(n==m)=false:=by
     cases q:n==m with
     |false=>rfl
     |true=>exact absurd (by rw[← eq_of_beq q];exact List.mem_map_of_mem (f:=(·.1)) h) nd.1
    rw[this]
    exact lookup_nodup nd.2 h
theorem bindL_other {kindOf:Str->Option NameKind} {n:Str}:∀{bs:List (Str×Value)} {m:Str->Option Value},n∉bs.map (·.1)->bindL kindOf bs m n=m n
 |[],_,_=>rfl
 |(k,v)::r,m,h=>by
  rw[List.map_cons,List.mem_cons,not_or] at h
  unfold bindL
  rw[bindL_other h.2]
  split
  · show (if n=k then some v else m n)=m n
    rw[if_neg h.1]
  · rfl
theorem bindC_other {kindOf:Str->Option NameKind} {n:Str}:∀{bs:List (Str×Value)} {m:Str->Option Value},n∉bs.map (·.1)->bindC kindOf bs m n=m n
 |[],_,_=>rfl
 |(k,v)::r,m,h=>by
  rw[List.map_cons,List.mem_cons,not_or] at h
  unfold bindC
  rw[bindC_other h.2]
  split
  · rfl
  · show (if n=k then some v else m n)=m n
    rw[if_neg h.1]
theorem bindL_mem {kindOf:Str->Option NameKind} {n:Str} {rv:Value} (hk:kindOf n=some .local):∀{bs:List (Str×Value)} {m:Str->Option Value},(bs.map (·.1)).Nodup->(n,rv)∈bs->bindL kindOf bs m n=some rv
 |[],_,_,h=>nomatch h
 |(k,v)::r,m,nd,h=>by
  rw[List.map_cons,List.nodup_cons] at nd
  unfold bindL
  rcases List.mem_cons.mp h with e|h
  · cases e
    rw[bindL_other nd.1,if_pos hk,if_pos rfl]
  · exact bindL_mem hk nd.2 h
theorem bindC_mem {kindOf:Str->Option NameKind} {n:Str} {rv:Value} (hk:kindOf n≠some .local):∀{bs:List (Str×Value)} {m:Str->Option Value},(bs.map (·.1)).Nodup->(n,rv)∈bs->bindC kindOf bs m n=some rv
 |[],_,_,h=>nomatch h
 |(k,v)::r,m,nd,h=>by
  rw[List.map_cons,List.nodup_cons] at nd
  unfold bindC
  rcases List.mem_cons.mp h with e|h
  · cases e
    rw[bindC_other nd.1,if_neg hk,if_pos rfl]
  · exact bindC_mem hk nd.2 h
noncomputable def plainScope (sc:Scope) (ns:List Str):Bool:=
 sc.kind==.function&&!sc.isCoroutine&&!sc.isGenerator&&ns.all (λn=>sc.names.lookup n==some .local||sc.names.lookup n==some .cell)&&decide ((cellsFrom 0 sc.names []).map (·.1)).Nodup
structure FnAt (c:Cf) (a:Addr) (fd:FuncData) (body:List Stmt) (ns:List Str) (dv:List Value):Prop where
 at_:∃o,c.base.get? a=some o∧o.data=.func fd
 code:c.base.CodeRec fd.code fd.qualname
 gl:fd.globals=mainGlobals
 bi:fd.builtins=builtinsNs
 clo:fd.closure=[]
 body:fd.body=.stmts body
 plain:Plain fd ns
 dflt:Dflt c.base fd dv
 dl:dv.length≤ns.length
 scope:plainScope fd.scope ns=true
 lim:c.base.NoLimit
def SoundFn (c:Cf) (lvl:Nat) (a:Addr) (F:F):Prop:=
 ∀f w s σ A (R:Result->Shared->Prop) k v ds vs,F v s k=true->Rel c f w s σ->Room A lvl->ConcL c.ρ v ds->RdL c.wo.params w σ.heap ds vs->Post c f w σ.heap k (λv σ'=>R (.ok (.ret v)) σ')->codeAny (model c.prog c.wo) A (.call (.ref a) ⟨vs,[]⟩) R σ
section
variable {c:Cf} {lvl:Nat}
theorem Room.deeper {A:Around} {env:Env} (R:Room A (lvl+1)):Room (A.deeper env) lvl:=⟨R.handled,by have:=R.depth;have e:(A.deeper env).depth=A.depth+1:=rfl;omega,by have:=R.units;have e:(A.deeper env).units=A.units+3:=rfl;omega⟩
theorem sound_fn {a:Addr} {fd:FuncData} {body:List Stmt} {ns:List Str} {dv:List Value} {ps:NL} {ds:VL} {b:S} (H:FnAt c a fd body ns dv) (hp:PsAt ps ns) (hd:DsAt c ds ns dv) (B:SoundS c lvl ⟨fd.scope,none⟩ body b):SoundFn c (lvl+1) a (fnD ps ds b):=by
 intro f w s σ A Rs k v dvs vs h rel rm C r post
 have h:bindP ds ps v (λl=>b ⟨l,.nil,s.hp,s.nx,s.bd⟩ (λs'=>k .none (back s s')) (λv s'=>k v (back s s')) (λU=>false))=true:=h
 obtain ⟨l,hb,l1,l2,BD⟩:=bindP_true (j:=0) (suf:=ns) rel hd H.dl rfl hp C r h
 obtain ⟨o,ho,hdat⟩:=H.at_
 have toH:∀a o,c.base.get? a=some o->σ.heap.get? a=some o:=λa o e=>(rel.base a o e).1
 have sc:=H.scope
 unfold plainScope at sc
 simp only[Bool.and_eq_true,Bool.not_eq_true',decide_eq_true_eq,List.all_eq_true,Bool.or_eq_true,beq_iff_eq] at sc
 obtain ⟨⟨⟨⟨s1,s2⟩,s3⟩,s4⟩,s5⟩:=sc
 have hdf:Dflt σ.heap fd dv:=by
  rcases H.dflt with e|⟨T,o,n,e,ho,hd⟩
  · exact .inl e
  · exact .inr ⟨T,o,n,e,toH _ _ ho,hd⟩
 refine codeAny_call_function (by have:=rm.depth;omega) (toH _ _ ho) hdat s2 s3 H.body (H.code.keeps toH) ?_
 refine bind_plain H.plain hdf l1 H.dl l2 ?_
 rw[H.clo]
 generalize hrvs:vs++dv.drop (vs.length+dv.length-ns.length)=rvs at BD
 have hlen:ns.length=rvs.length:=by rw[← hrvs];simp;omega
 have map1:(ns.zip rvs).map (·.1)=ns:=by rw[List.map_fst_zip (by omega)]
 have hmem:∀x∈ns.zip rvs,x.1∈ns:=λx hx=>(List.of_mem_zip hx).1
 refine wpAny_newFunctionEnv_cells s1 (λx hx=>?_) λenv he s' x=>?_
 · rcases s4 x.1 (hmem x hx) with q|q
   · exact .inl q
   · exact .inr ⟨q,cellsFrom_has (.inl (PySem.mem_of_lookup q))⟩
 have e1:env.cells=cellsFrom (σ.heap.objs.size+1) fd.scope.names []:=by rw[he];rfl
 have e2:env.scope=fd.scope:=by rw[he];rfl
 have e3:env.globals=mainGlobals:=by rw[he];exact H.gl
 have e4:env.builtins=builtinsNs:=by rw[he];exact H.bi
 obtain ⟨h',tk,rfl,kp⟩:=x.done
 have hnd:(env.cells.map (·.1)).Nodup:=by
  rw[e1]
  have:∀(names:List (Str×NameKind)) (k k':Nat) (acc acc':List (Str×Addr)),acc.map (·.1)=acc'.map (·.1)->(cellsFrom k names acc).map (·.1)=(cellsFrom k' names acc').map (·.1):=by
   intro names
   induction names with
   |nil=>intro k k' acc acc' e;exact e
   |cons y r ih=>
    intro k k' acc acc' e
    obtain ⟨m,kd⟩:=y
    unfold cellsFrom
    split
    · exact ih _ _ _ _ (by simp[e])
    · exact ih _ _ _ _ e
  rw[this fd.scope.names _ 0 [] [] rfl]
  exact s5
 let g:Fm:=⟨env,none⟩
 have above:∀y∈env.cells,env.locals<y.2:=λy hy=>x.above y.1 y.2 hy
 have frL:σ.heap.objs.size≤env.locals:=x.toInCall.fresh
 have fresh:∀a,g.Own a->σ.heap.get? a=none:=λa ha=>by
  have ge:σ.heap.objs.size≤a:=by
   rcases ha with q|⟨y,hy,q⟩|⟨_,_,q⟩
   · rw[q];exact frL
   · rw[← q];exact Nat.le_of_lt (Nat.lt_of_le_of_lt frL (above y hy))
   · cases q
  cases e:σ.heap.get? a with
  |none=>rfl
  |some o=>exact absurd (Heap.lt_size e) (Nat.not_lt.mpr ge)
 have kind:∀n kd,fd.scope.names.lookup n=some kd->env.kindOf n=some kd:=λn kd e=>by unfold Env.kindOf;rw[e2];exact e
 have hH:∀n rv,(n,rv)∈ns.zip rvs->Holds env h' n rv:=λn rv hm=>by
  rcases s4 n (hmem _ hm) with q|q
  · have kq:=kind n _ q
    exact .inl ⟨kq,_,x.toInCall.ns,bindL_mem kq (by rw[map1];exact H.plain.nd) hm⟩
  · have kq:=kind n _ q
    obtain ⟨a',ha'⟩:=Option.isSome_iff_exists.mp (cellsFrom_has (k:=σ.heap.objs.size+1) (acc:=[]) (.inl (PySem.mem_of_lookup q)))
    rw[← e1] at ha'
    refine .inr ⟨kq,a',ha',?_⟩
    have:=x.cell n a' ha'
    rw[bindC_mem (by rw[kq];decide) (by rw[map1];exact H.plain.nd) hm] at this
    exact this
 obtain ⟨rel',X'⟩:=rel.call (g:=g) (tk:=tk) rfl kp fresh BD H.plain.nd hH ⟨_,x.toInCall.ns⟩ (λy hy=>⟨_,x.cell y.1 y.2 (lookup_nodup hnd hy)⟩) (λy hy e=>Nat.lt_irrefl _ (e▸above y hy))
  (λy hy z hz e=>name_of_addr x.apart (c:=y.2) hy (e▸hz)) s.bd rfl
 refine ⟨(H.lim.keeps toH).keeps kp,codeAny_func ?_⟩
 have fo:FrOK ⟨fd.scope,none⟩ g:=⟨e2,s1,e3,e4,λn hn=>by
  show (env.cells.lookup n).isSome=true
  have:fd.scope.names.lookup n=some .cell:=by rw[← e2];exact hn
  rw[e1];exact cellsFrom_has (.inl (PySem.mem_of_lookup this)),rfl⟩
 have cont:∀(v':AV) (s1:St) (w1:Wd) (σ1:Shared) (d:CD) (rv:Value),k v' (Mine.back s s1)=true->Rel c g w1 s1 σ1->Ext (w.call f g) h' w1 σ1.heap->Conc c.ρ v' d->Rd c.wo.params w1 σ1.heap d rv->Rs (.ok (.ret rv)) σ1:=by
  intro v' s1 w1 σ1 d rv hk rel1 X1 C1 r1
  have xx:∀a,f.Own a->w1.X a:=λa q=>X1.mono a (.inl (w.sub a (rel.own a q)))
  obtain ⟨rel2,X2⟩:=rel.back kp fresh rel1 X1 xx
  exact post v' _ _ _ d rv hk rel2 X2 C1 (r1.extR (w:=w1) (w':=w1.ret f g xx) (h':=σ1.heap) ⟨λU U e=>e,λU U e U=>e,λU U U q=>q⟩)
 refine B g (w.call f g) _ {σ with heap:=h',toks:=tk} (A.deeper env) _ _ _ _ _ fo hb rel' rm.deeper ?_ ?_ ?_
 · intro s1 w1 σ1 hk rel1 X1
   exact cont .none s1 w1 σ1 .none .none hk rel1 X1 .none .none
 · intro v1 s1 w1 σ1 d rv hk rel1 X1 C1 r1
   exact cont v1 s1 w1 σ1 d rv hk rel1 X1 C1 r1
 · intro s1 w1 σ1 hk rel1 X1
   exact nomatch hk
end
def GlobV (c:Cf) (n:Str) (rv:Value):Prop:=∃m mb,c.base.Ns mainGlobals m∧c.base.Ns builtinsNs mb∧(m n=some rv∨(m n=none∧mb n=some rv))
noncomputable def Cx.glob (x:Cx) (n:Str):Bool:=match x.comp with
 |none=>x.scope.names.lookup n==some .globalImplicit
 |some s=>s.names.lookup n==some .globalImplicit
section
variable {c:Cf} {lvl:Nat} {x:Cx}
theorem lookup_relabel_glob {env:Env}:∀{names:List (Str×NameKind)} {n:Str},names.lookup n=some .globalImplicit->
  (names.map λ(n,k)=>if (k==NameKind.free&&env.scope.kind==.function&&env.kindOf n==some .cell) then (n,NameKind.cell) else (n,k)).lookup n=some .globalImplicit
 |[],_,h=>by simp at h
 |(m,k)::r,n,h=>by
  show List.lookup n ((if (k==NameKind.free&&env.scope.kind==.function&&env.kindOf m==some .cell)=true then (m,NameKind.cell) else (m,k))::_)=_
  cases q:n==m with
  |true=>
   simp only[List.lookup_cons,q] at h
   cases h
   rw[if_neg (by simp)]
   simp only[List.lookup_cons,q]
  |false=>
   simp only[List.lookup_cons,q] at h
   have ih:=lookup_relabel_glob (env:=env) (names:=r) h
   by_cases hc:(k==NameKind.free&&env.scope.kind==.function&&env.kindOf m==some .cell)=true
   · rw[if_pos hc];simp only[List.lookup_cons,q];exact ih
   · rw[if_neg hc];simp only[List.lookup_cons,q];exact ih
theorem glob_env {f:Fm} (fo:FrOK x f) {n:Str} (h:x.glob n=true):f.cur.scope.kind=.function∧f.cur.kindOf n=some .globalImplicit∧f.cur.globals=mainGlobals∧f.cur.builtins=builtinsNs:=by
 have fc:=fo.comp
 unfold Cx.glob at h
 unfold Fm.cur
 cases hx:x.comp with
 |none=>
  rw[hx] at fc h
  have fc:f.comp=none:=fc
  rw[fc]
  refine ⟨by show f.env.scope.kind=_;rw[fo.scope];exact fo.kind,?_,fo.globals,fo.builtins⟩
  show f.env.kindOf n=_
  unfold Env.kindOf;rw[fo.scope];exact beq_iff_eq.mp h
 |some s=>
  rw[hx] at fc h
  obtain ⟨cl,a,fc,kd,_,_⟩:=fc
  rw[fc]
  exact ⟨kd,lookup_relabel_glob (beq_iff_eq.mp h),fo.globals,fo.builtins⟩
theorem load_glob {f:Fm} {w:Wd} {s:St} {σ:Shared} {A:Around} {Q:Value->Shared->Prop} {E:Value->Shared->Prop} {n:Str} {pos:Pos} {rv:Value} (fo:FrOK x f) (R:Rel c f w s σ) (hx:x.glob n=true) (hg:GlobV c n rv)
  (hd:(n==("__debug__":Str))=false) (h:Q rv σ):wpAny (model c.prog c.wo) A (eval (.Name n pos) f.cur) Q E σ:=by
 obtain ⟨e1,e2,e3,e4⟩:=glob_env fo hx
 obtain ⟨m,mb,hm,hmb,hv⟩:=hg
 have k:∀a o,c.base.get? a=some o->σ.heap.get? a=some o:=λa o e=>(R.base a o e).1
 rcases hv with hv|⟨h1,h2⟩
 · exact Calls.Name_function_global e1 e2 (Calls.loadGlobal_global (by rw[e3];exact hm.keeps k) hv h) hd
 · exact Calls.Name_function_global e1 e2 (Calls.loadGlobal_builtin (by rw[e3];exact hm.keeps k) h1 (by rw[e4];exact hmb.keeps k) h2 h) hd
theorem sound_globC {n:Str} {pos:Pos} {v:AV} {rv:Value} {d:CD} (hx:x.glob n=true) (hg:GlobV c n rv) (hd:(n==("__debug__":Str))=false) (C:Conc c.ρ v d) (r:Rd c.wo.params w0 c.base d rv):SoundE c lvl x (.Name n pos) (cst v):=by
 intro f w s σ A Q E k fo h rel rm post
 exact load_glob fo rel hx hg hd (post.now h rel C (r.extR rel.toBase))
theorem callWith_base {es:List Expr} {l:CL} {pos:Pos} {a:Addr} {o:Obj} {first:List Value} (H:SoundSp c lvl x es l) (hp:es.all plainArg=true) (ho:c.base.get? a=some o)
  (hk:∀h,h.get? a=some o->c.K.In h->∃k,(k=Keeper.frame∨k=Keeper.machine∨k=Keeper.boundFrame)∧Looks (model c.prog c.wo) h (keeperOf (.ref a)) k) (ok:CfOK c)
  {f:Fm} {w:Wd} {s:St} {σ:Shared} {A:Around} {Q:Value->Shared->Prop} {E:Value->Shared->Prop} {k:K AV} (fo:FrOK x f) (h:evL l s k=true) (rel:Rel c f w s σ) (rm:Room A lvl)
  (post:∀v s' w' σ' ds vs,k v s'=true->Rel c f w' s' σ'->Ext w σ.heap w' σ'.heap->ConcL c.ρ v ds->RdL c.wo.params w' σ'.heap ds vs->vs.length=es.length->wpAny (model c.prog c.wo) A (PySem.call (.ref a) (first++vs)) Q E σ'):
  wpAny (model c.prog c.wo) A (callWith pos (.ref a) first (backTo pos (starEach es f.cur)) []) Q E σ:=by
 refine callWith_of (P:=λh=>h.get? a=some o∧c.K.In h) (by rw[star_any hp];rfl) (λh e=>hk h e.1 e.2) ?_
 have inK:∀{w' s' σ'},Rel c f w' s' σ'->c.K.In σ'.heap:=λr=>ok.In r
 cases es with
 |nil=>
  have H':=H pos f w s σ A (λvs s₁=>(s₁.heap.get? a=some o∧c.K.In s₁.heap)∧wpAny (model c.prog c.wo) A (PySem.call (.ref a) (first++vs) []) Q E s₁) E k fo h rel rm
   λv s1 w1 σ1 ds vs e1 rel1 X1 C1 r1 ln=>⟨⟨(rel1.base a o ho).1,inK rel1⟩,post v s1 w1 σ1 ds vs e1 rel1 X1 C1 r1 ln⟩
  unfold evalArgs
  show wpAny _ A (spliced []>>= _) _ E σ
  refine wpAny_bind (wpAny_mono H' (λvs s' h'=>wpAny_bind (wpAny_pure ?_)) λU U x=>x)
  refine wpAny_holding ?_
  exact wpAny_bind (wpAny_pure (wpAny_bind (wpAny_pure (wpAny_pure h'))))
 |cons e es=>
  rw[List.all_cons,Bool.and_eq_true] at hp
  have H':=H pos f w s σ A (λvs s₁=>(s₁.heap.get? a=some o∧c.K.In s₁.heap)∧wpAny (model c.prog c.wo) A (PySem.call (.ref a) (first++vs) []) Q E s₁) E k fo h rel rm
   λv s1 w1 σ1 ds vs e1 rel1 X1 C1 r1 ln=>⟨⟨(rel1.base a o ho).1,inK rel1⟩,post v s1 w1 σ1 ds vs e1 rel1 X1 C1 r1 ln⟩
  rw[starEach_cons hp.1] at H' ⊢
  exact Calls.evalArgs_plain H'
end
section
variable {c:Cf} {lvl m:Nat} {x:Cx}
theorem fn_wp {a:Addr} {F:F} (H:SoundFn c m a F) {f:Fm} {w:Wd} {s:St} {σ:Shared} {A:Around} {Q:Value->Shared->Prop} {E:Value->Shared->Prop} {k:K AV} {v:AV} {ds:List CD} {vs:List Value} (h:F v s k=true) (rel:Rel c f w s σ) (rm:Room A m)
  (C:ConcL c.ρ v ds) (r:RdL c.wo.params w σ.heap ds vs) (post:Post c f w σ.heap k Q):wpAny (model c.prog c.wo) A (PySem.call (.ref a) vs) Q E σ:=
 wpAny_call (H f w s σ A _ k v ds vs h rel rm C r post)
theorem sound_call {n:Str} {p pos:Pos} {es:List Expr} {l:CL} {a:Addr} {F:F} (ok:CfOK c) (hx:x.glob n=true) (hg:GlobV c n (.ref a)) (hd:(n==("__debug__":Str))=false) (hk:keepIn c.K (.ref a)=true)
  (H:SoundFn c m a F) (hm:m≤lvl) (L:SoundSp c lvl x es l) (hp:es.all plainArg=true):SoundE c lvl x (.Call (.Name n p) es [] pos) (callF F l):=by
 intro f w s σ A Q E k fo h rel rm post
 have h:evL l s (λvs s=>F vs s k)=true:=h
 obtain ⟨o,ho⟩:∃o,c.K.lookup a=some o:=by
  unfold keepIn at hk
  dsimp only at hk
  cases e:c.K.lookup a with
  |none=>rw[e] at hk;cases hk
  |some o=>exact ⟨o,rfl⟩
 rw[arm_eval_Call_Name']
 refine wpAny_bind (load_glob fo rel hx hg hd ?_)
 refine callWith_base (first:=[]) L hp (ok.kin a o ho) (λh U X=>keeps_K hk h X) ok fo h rel rm ?_
 intro v s1 w1 σ1 ds vs e1 rel1 X1 C1 r1 ln
 exact fn_wp H e1 rel1 (rm.down hm) C1 r1 (post.ext X1)
structure KlsAt (c:Cf) (k:Nat) (fI:Addr):Prop where
 mkr:makesIn c.K (c.cls k)=true
 ini:findIn c.K (.ref (c.cls k)) "__init__"=some (some (.ref fI))
 fn:typeIn c.K (.ref fI)=some (.type "function")
 kp:keepIn c.K (.ref (c.cls k))=true
theorem under_room {A:Around} {C:Addr} {args:Args} (R:Room A (lvl+1)):Room (A.under (.builtin "type.__call__" ⟨.ref C::args.pos,args.kw⟩)) lvl:=by
 have e1:(A.under (.builtin "type.__call__" ⟨.ref C::args.pos,args.kw⟩)).depth=A.depth+1:=rfl
 have e2:(A.under (.builtin "type.__call__" ⟨.ref C::args.pos,args.kw⟩)).units=A.units+1:=rfl
 have:=R.depth
 have:=R.units
 exact ⟨R.handled,by omega,by omega⟩
theorem isNonT_true {v:AV} {t:Bool} (h:isNonT v t false=true):v=.none∧t=true:=by
 cases v with
 |none=>exact ⟨rfl,h⟩
 |_=>exact fF h
open Classical in
theorem sound_new {n:Str} {p pos:Pos} {es:List Expr} {l:CL} {q:Nat} {fI:Addr} {F:F} (ok:CfOK c) (hx:x.glob n=true) (hg:GlobV c n (.ref (c.cls q))) (hd:(n==("__debug__":Str))=false) (K:KlsAt c q fI)
  (H:SoundFn c m fI F) (hm:m+1≤lvl) (L:SoundSp c lvl x es l) (hp:es.all plainArg=true):SoundE c lvl x (.Call (.Name n p) es [] pos) (newC q F l):=by
 intro f w s σ A Q E k fo h rel rm post
 have h:evL l s (λvs s=>newO (.inst q .nil) s λo s=>F (.cons o vs) s λr s=>isNonT r (k o s) false)=true:=h
 have hk:=K.kp
 obtain ⟨o,ho⟩:∃o,c.K.lookup (c.cls q)=some o:=by
  unfold keepIn at hk
  dsimp only at hk
  cases e:c.K.lookup (c.cls q) with
  |none=>rw[e] at hk;cases hk
  |some o=>exact ⟨o,rfl⟩
 rw[arm_eval_Call_Name']
 refine wpAny_bind (load_glob fo rel hx hg hd ?_)
 refine callWith_base (first:=[]) L hp (ok.kin _ o ho) (λh U X=>keeps_K hk h X) ok fo h rel rm ?_
 intro v s1 w1 σ1 ds vs e1 rel1 X1 C1 r1 ln
 have X:=ok.In rel1
 have e1:F (.cons (.loc s1.nx) v) ⟨s1.vars,s1.cvars,HT.put s1.nx (.inst q .nil) s1.hp,P.succ s1.nx,s1.bd⟩ (λr s=>isNonT r (k (.loc s1.nx) s) false)=true:=e1
 have hb:=Heap.none_size σ1.heap
 have kp:∀a o,σ1.heap.get? a=some o->((σ1.heap.push emptyDict).push (instObj (c.cls q) σ1.heap.objs.size)).get? a=some o:=λa o e=>Heap.get?_push_of_some _ (Heap.get?_push_of_some _ e)
 have gx:((σ1.heap.push emptyDict).push (instObj (c.cls q) σ1.heap.objs.size)).get? (σ1.heap.objs.size+1)=some (instObj (c.cls q) σ1.heap.objs.size):=by
  have:=Heap.get?_push_size (σ1.heap.push emptyDict) (o:=instObj (c.cls q) σ1.heap.objs.size) rfl
  rwa [Heap.size_push] at this
 have gd:((σ1.heap.push emptyDict).push (instObj (c.cls q) σ1.heap.objs.size)).get? σ1.heap.objs.size=some emptyDict:=Heap.get?_push_of_some _ (Heap.get?_push_size _ rfl)
 have nXx:¬(w1.new s1.nx (σ1.heap.objs.size+1) σ1.heap.objs.size).X (σ1.heap.objs.size+1):=λz=>by
  rcases z with z|z
  · obtain ⟨o,e⟩:=rel1.dom _ z
    exact absurd (Heap.lt_size e) (Nat.not_lt.mpr (Nat.le_succ _))
  · exact absurd z (Nat.succ_ne_self _)
 obtain ⟨R',X'⟩:=rel1.new (tk:=σ1.toks) (o:=.inst q .nil) (a:=σ1.heap.objs.size+1) hb kp ⟨[],#[],0,gx,nXx,.nil,λx h=>(nomatch h),gd,.nil,.nil,base_ne ok rel1,Nat.zero_le _,.inr rfl⟩
 refine wpAny_call ?_
 obtain ⟨hh,g,d,t,os⟩:=σ1
 refine make_core (makes_of X K.mkr) (looks_findIn X K.ini) (λself=>bind_fn X self K.fn) (.inl rfl) ?_
 refine H f _ _ _ _ _ _ _ (.loc s1.nx::ds) _ e1 R' ((under_room (args:=⟨[]++vs,[]⟩) (rm.down hm))) (.cons (.loc _) C1) (.cons (.loc (b:=hh.objs.size) Wd.new_eta) (r1.extR X'.r)) ?_
 intro v2 s2 w2 σ2 d2 rv2 e2 rel2 X2 C2 r2
 obtain ⟨rfl,e2⟩:=isNonT_true e2
 cases C2
 cases r2
 exact ⟨rfl,post (.loc s1.nx) s2 w2 σ2 (.loc s1.nx) _ e2 rel2 (X1.trans (X'.trans X2)) (.loc _) (.loc (X2.eta _ _ Wd.new_eta))⟩
end
section
variable {c:Cf} {lvl m:Nat} {x:Cx}
theorem star_all:∀{es:List Expr} {env:Env} {pos:Pos},es.all plainArg=true->(backTo pos (starEach es env)).all (λx=>!x.1)=true
 |[],_,_,_=>rfl
 |e::es,env,pos,h=>by
  rw[List.all_cons,Bool.and_eq_true] at h
  rw[starEach_cons h.1]
  show (!false&&(backTo pos (starEach es env)).all (λx=>!x.1))=true
  rw[star_all h.2];rfl
theorem meth_open {M:Model} {A:Around} {E:Value->Shared->Prop} {Q:Value->Shared->Prop} {σ:Shared} {env:Env} {o:Expr} {n:Str} {apos pos:Pos} {es:List Expr} (hb:noBareCall o=true) (hl:(apos.endLine==pos.line)=true) (hp:es.all plainArg=true) (hn:es.length<30)
  (h:wpAny M A (eval o env) (λov s₁=>wpAny M A (getMethod ov n (do return (← importBound o env).getD true)) (λfx s₂=>wpAny M A (callWith pos fx.1 fx.2 (backTo pos (starEach es env)) []) Q E s₂) E s₁) E σ):
  wpAny M A (eval (.Call (.Attribute o n apos) es [] pos) env) Q E σ:=by
 rw[arm_eval_Call,base_of hb]
 refine wpAny_bind (wpAny_mono h (λov s₁ h₁=>wpAny_bind (wpAny_standAt ?_)) λU U x=>x)
 have hform:methodCallForm (es.length+([]:List Keyword).length) (backTo pos (starEach es env)) (backToKw pos (keywordEach [] env))=true:=by
  unfold methodCallForm
  rw[star_all hp]
  show (true&&true&&decide (es.length+0+0<30))=true
  rw[decide_eq_true (by omega)];rfl
 have hpos:methodCallPos true o env apos pos=pure pos:=by unfold methodCallPos;simp[hl]
 unfold methodCall
 rw[hform]
 refine wpAny_bind (wpAny_holding (wpAny_mono h₁ (λfx s₂ h₂=>?_) λU U x=>x))
 exact wpAny_bind (wpAny_of_eq hpos h₂)
inductive MsAt (c:Cf) (m:Nat) (n:Str):ML->Prop
 |nil:MsAt c m n .nil
 |cons {k:Nat} {F:F} {ml:ML} {a:Addr}:findIn c.K (.ref (c.cls k)) n=some (some (.ref a))->typeIn c.K (.ref a)=some (.type "function")->keepIn c.K (.ref a)=true->SoundFn c m a F->MsAt c m n ml->MsAt c m n (.cons k F ml)
theorem disp_true {k:Nat} {ml:ML} {n:Str} {kk:F->Bool} (M:MsAt c m n ml) (h:disp k ml kk=true):∃a F,findIn c.K (.ref (c.cls k)) n=some (some (.ref a))∧typeIn c.K (.ref a)=some (.type "function")∧keepIn c.K (.ref a)=true∧SoundFn c m a F∧kk F=true:=by
 induction M with
 |nil=>exact fF h
 |@cons k' F ml a h1 h2 h3 h4 M ih=>
  have h:(Bool.rec (disp k ml kk) (kk F) (Nat.beq k' k):Bool)=true:=h
  rcases boolRec_true h with ⟨b,g⟩|⟨b,g⟩
  · obtain rfl:=beq_true b
    exact ⟨a,F,h1,h2,h3,h4,g⟩
  · exact ih g
theorem getN_none {Pm:Params} {w:Wd} {h:Heap} {n:Str} {ds:List (CD×CD)} {es:List DictEntry} (r:RdE Pm w h ds es) (st:∀x∈ds,∃s,x.1=.str s) (g:getK (.str n) ds=none):es.find? (·.key.isStr n)=none:=by
 induction r using RdE.ind with
 |nil=>rfl
 |@cons k v ds kv vv es hk rk rv r ih=>
  obtain ⟨s,e⟩:∃s,k=.str s:=st _ List.mem_cons_self
  subst e
  refine rk.inv λtk e=>?_
  subst e
  by_cases q:CD.str s=.str n
  · rw[q,getK_hit] at g;cases g
  · rw[getK_miss q] at g
    rw[List.find?_cons]
    simp only[isStr_str,strNe λz=>absurd (congrArg CD.str z) q]
    exact ih (λx hx=>st x (List.mem_cons_of_mem _ hx)) g
theorem sound_meth {o:Expr} {n:Str} {apos pos:Pos} {es:List Expr} {a:C} {l:CL} {ml:ML} (ok:CfOK c) (H:SoundE c lvl x o a) (hb:noBareCall o=true) (hl:(apos.endLine==pos.line)=true) (hs:okS n=true)
  (M:MsAt c m n ml) (hm:m≤lvl) (L:SoundSp c lvl x es l) (hp:es.all plainArg=true) (hn:es.length<30):SoundE c lvl x (.Call (.Attribute o n apos) es [] pos) (meth (sc n) ml a l):=by
 intro f w s σ A Q E k fo h rel rm post
 refine meth_open hb hl hp hn (H f w s σ A _ E _ fo h rel rm ?_)
 intro v s1 w1 σ1 d rv e1 rel1 X1 C1 r1
 obtain ⟨p,ad,b,q,kvs,ds,es',n',rfl,rfl,hp',ho,g,nx,C,st,D,I,e1⟩:=inst_true rel1 C1 r1 (show (isLoc v λi=>HT.get i s1.hp λob=>isInst ob λk' kvs=>findD s1.bd (.str (sc n)) kvs (λU=>false) (disp k' ml λf=>evL l s1 λvs s=>f (.cons v vs) s k))=true from e1)
 have fd:=findD_dec rel1.bd (.str n hs) (by exact hs) C D.rd.keys e1
 have gn:getK (.str n) ds=none:=by
  cases e:getK (.str n) ds with
  |none=>rfl
  |some u=>obtain ⟨_,_,z⟩:=fd.1 u e;cases z
 obtain ⟨fa,F,h1,h2,h3,h4,e2⟩:=disp_true M (fd.2 gn)
 have hsh:shadowIn (some (dObj es' n')) n=some false:=by
  show (lookIn n (dObj es' n')).map (·.isSome)=_
  unfold lookIn
  dsimp only
  rw[getN_none D.rd st gn]
  dsimp only
  rw[if_neg (by rw[noRef D.rd st];exact Bool.false_ne_true)]
  rfl
 refine method_fn (ok.In rel1) I (ok.ga q) (ok.gt q) h1 h2 hsh ?_
 obtain ⟨o',ho'⟩:∃o,c.K.lookup fa=some o:=by
  have hk:=h3
  unfold keepIn at hk
  dsimp only at hk
  cases e:c.K.lookup fa with
  |none=>rw[e] at hk;cases hk
  |some o=>exact ⟨o,rfl⟩
 refine callWith_base (first:=[.ref ad]) L hp (ok.kin _ _ ho') (λh U X=>keeps_K h3 h X) ok fo e2 rel1 rm ?_
 intro v2 s2 w2 σ2 ds2 vs2 e3 rel2 X2 C2 r2 ln
 exact fn_wp h4 e3 rel2 (rm.down hm) (.cons (.loc p) C2) (.cons (.loc (X2.eta _ _ hp')) r2) (post.ext (X1.trans X2))
end
noncomputable def compScope (fs sc:Scope):Bool:=
 sc.kind==.function&&sc.names.all λy=>!(y.2==.cell)&&(!(y.2==.local)||sc.names.lookup y.1==some .local)&&(!(y.2==.free)||fs.names.lookup y.1==some .cell)
noncomputable def closeL (cells:List (Str×Addr)):List (Str×NameKind)->List (Str×Addr)->List (Str×Addr)
 |[],acc=>acc
 |(n,k)::r,acc=>if k==.free then closeL cells r ((n,(cells.lookup n).getD 0)::acc) else closeL cells r acc
theorem closeL_c {cells acc:List (Str×Addr)} {n:Str} {k:NameKind} {r:List (Str×NameKind)}:closeL cells ((n,k)::r) acc=if k==.free then closeL cells r ((n,(cells.lookup n).getD 0)::acc) else closeL cells r acc:=rfl
theorem forIn_close {env:Env}:∀(names:List (Str×NameKind)) (acc:List (Str×Addr)),(∀n,(n,NameKind.free)∈names->(env.cells.lookup n).isSome=true)->
  (forIn names acc λ(x:Str×NameKind) (r:List (Str×Addr))=>(if x.2==.free then do let a ←cellOf env x.1;pure (ForInStep.yield ((x.1,a)::r)) else pure (ForInStep.yield r):Sem _))=pure (closeL env.cells names acc)
 |[],acc,_=>by rw[List.forIn_nil];rfl
 |(n,k)::r,acc,h=>by
  rw[List.forIn_cons]
  dsimp only
  rw[closeL_c]
  by_cases q:(k==NameKind.free)=true
  · rw[if_pos q,if_pos q]
    have e:=h n (by rw[beq_iff_eq.mp q];exact List.mem_cons_self)
    obtain ⟨a,ha⟩:=Option.isSome_iff_exists.mp e
    have:cellOf env n=pure a:=by unfold cellOf;rw[ha]
    rw[this,ha]
    exact forIn_close r _ λm hm=>h m (List.mem_cons_of_mem _ hm)
  · rw[if_neg q,if_neg q]
    exact forIn_close r _ λm hm=>h m (List.mem_cons_of_mem _ hm)
set_option tactic.hygienic true in
theorem closeL_all {cells:List (Str×Addr)}:∀{names:List (Str×NameKind)} {acc:List (Str×Addr)},(∀n,(n,NameKind.free)∈names->(cells.lookup n).isSome=true)->(∀n a,(n,a)∈acc->cells.lookup n=some a)->
  ∀n a,(n,a)∈closeL cells names acc->cells.lookup n=some a
 |[],_,_,h=>h
 |(m,k)::r,acc,hn,h=>by
  rw[closeL_c]
  split
  · rename_i q
    refine closeL_all (λm hm=>hn m (List.mem_cons_of_mem _ hm)) λn a hm=>?_
    rcases List.mem_cons.mp hm with e|hm
    · cases e
      have e:=hn m (by rw[beq_iff_eq.mp q];exact List.mem_cons_self)
      obtain ⟨a,ha⟩:=Option.isSome_iff_exists.mp e
      rw[ha];rfl
    · exact h n a hm
  · exact closeL_all (λm hm=>hn m (List.mem_cons_of_mem _ hm)) h
set_option tactic.hygienic true in
theorem closeL_has {cells:List (Str×Addr)} {n:Str}:∀{names:List (Str×NameKind)} {acc:List (Str×Addr)},((n,NameKind.free)∈names∨(acc.lookup n).isSome=true)->((closeL cells names acc).lookup n).isSome=true
 |[],acc,h=>by
  rcases h with h|h
  · cases h
  · exact h
 |(m,k)::r,acc,h=>by
  rw[closeL_c]
  split
  · refine closeL_has ?_
    rcases h with h|h
    · rcases List.mem_cons.mp h with e|h
      · cases e;right;simp
      · exact .inl h
    · right
      rw[List.lookup_cons]
      split
      · rfl
      · exact h
  · rename_i q
    refine closeL_has ?_
    rcases h with h|h
    · rcases List.mem_cons.mp h with e|h
      · cases e;simp at q
      · exact .inl h
    · exact .inr h
section
variable {c:Cf} {lvl:Nat} {x:Cx} {f:Fm} {w:Wd} {s:St} {σ:Shared}
theorem comp_parts {fs sc:Scope} (h:compScope fs sc=true):sc.kind=.function∧(∀y∈sc.names,y.2≠.cell)∧(∀y∈sc.names,y.2=.local->sc.names.lookup y.1=some .local)∧∀n,(n,NameKind.free)∈sc.names->fs.names.lookup n=some .cell:=by
 unfold compScope at h
 rw[Bool.and_eq_true,List.all_eq_true] at h
 refine ⟨beq_iff_eq.mp h.1,λy hy=>?_,λy hy e=>?_,λn hn=>?_⟩
 · have:=h.2 y hy
   simp only[Bool.and_eq_true,Bool.not_eq_true',beq_eq_false_iff_ne] at this
   exact this.1.1
 · have:=h.2 y hy
   simp only[Bool.and_eq_true,Bool.or_eq_true,Bool.not_eq_true',beq_iff_eq] at this
   have:=this.1.2
   rw[e] at this
   simpa using this
 · have:=h.2 _ hn
   simp only[Bool.and_eq_true,Bool.or_eq_true,Bool.not_eq_true',beq_iff_eq] at this
   simpa using this.2
noncomputable def Fm.incomp (f:Fm) (sc:Scope) (C:Addr):Fm:=⟨f.env,some (sc,closeL f.env.cells sc.names [],C)⟩
theorem comp_close (fo:FrOK x f) {sc:Scope} (h:compScope x.scope sc=true):closureFor sc f.env=pure (closeL f.env.cells sc.names [])∧∀C,FrOK ⟨x.scope,some sc⟩ (f.incomp sc C):=by
 obtain ⟨h1,h2,h3,h4⟩:=comp_parts h
 have hc:∀n,(n,NameKind.free)∈sc.names->(f.env.cells.lookup n).isSome=true:=λn hn=>fo.cells n (by unfold Env.kindOf;rw[fo.scope];exact h4 n hn)
 have e1:closureFor sc f.env=pure (closeL f.env.cells sc.names []):=by
  show (forIn sc.names [] (λ(x:Str×NameKind) (r:List (Str×Addr))=>(if x.2==.free then do let a ←cellOf f.env x.1;pure (ForInStep.yield ((x.1,a)::r)) else pure (ForInStep.yield r):Sem _))>>= λcs=>pure cs)=_
  rw[forIn_close sc.names [] hc];rfl
 refine ⟨e1,λC=>⟨fo.scope,fo.kind,fo.globals,fo.builtins,fo.cells,_,C,rfl,h1,e1,λn hn=>?_⟩⟩
 have hm:=PySem.mem_of_lookup hn
 obtain ⟨a,ha⟩:=Option.isSome_iff_exists.mp (closeL_has (cells:=f.env.cells) (acc:=[]) (.inl hm))
 rw[ha]
 exact (closeL_all (acc:=[]) hc (λU U h=>nomatch h) n a (mem_of_lookup ha)).symm
noncomputable def Wd.own (w:Wd) (C:Addr):Wd:=⟨w.eta,λa=>w.X a∨a=C,λa=>w.W a∨a=C,λa h=>h.elim (λq=>.inl (w.sub a q)) .inr⟩
noncomputable def Wd.drop (w:Wd) (C:Addr):Wd:=⟨w.eta,w.X,λa=>w.W a∧a≠C,λa h=>w.sub a h.1⟩
theorem Rel.incomp (R:Rel c f w s σ) {sc:Scope} {C:Addr} {h':Heap} {tk:Nat} (hf:f.comp=none) (hC:σ.heap.get? C=none) (k:∀a o,σ.heap.get? a=some o->h'.get? a=some o) (hn:∃m,h'.Ns C m):
  Rel c (f.incomp sc C) (w.own C) (noC s) {σ with heap:=h',toks:=tk}∧Ext w σ.heap (w.own C) h':=by
 have E:Ext w σ.heap (w.own C) h':=⟨λU U e=>e,λa o e U=>k a o e,λa o e q=>q.elim id (λq=>by rw[q,hC] at e;cases e),λa o e q=>q.elim id (λq=>by rw[q,hC] at e;cases e),λa o e=>⟨o,k a o e⟩,λa h=>.inl h⟩
 have R':=R.world (w':=w.own C) (nx:=s.nx) (h':=h') (tk:=tk) E.r (λa h=>by obtain ⟨o,e⟩:=R.dom a (w.sub a h);rw[e];exact k a o e) (λU h=>.inl h)
  (λa o e=>⟨k a o (R.base a o e).1,λq=>q.elim (R.base a o e).2 λq=>by have:=(R.base a o e).1;rw[q,hC] at this;cases this⟩)
  (λa h=>h.elim (λh=>by obtain ⟨o,e⟩:=R.dom a h;exact ⟨o,k a o e⟩) λq=>by obtain ⟨m,o,_,_,e,_⟩:=hn;exact ⟨o,q▸e⟩) R.nx
 refine ⟨{
  bd:=R'.bd
  vars:=R'.vars
  cvars:=λx v e=>(nomatch (show (none:Option AV)=some v from e))
  ns:=R'.ns
  cells:=R'.cells
  cellNe:=R'.cellNe
  cellInj:=R'.cellInj
  comp:=λs' c' a e=>by
   cases e
   refine ⟨hn,λq=>?_,λy hy q=>?_⟩
   · obtain ⟨m,o,_,_,e,_⟩:=R.ns
     have q:C=f.env.locals:=q
     rw[← q,hC] at e;cases e
   · obtain ⟨v,o,e,_⟩:=R.cells y hy;rw[q,hC] at e;cases e
  own:=λa h=>by
   rcases h with h|h|⟨_,_,h⟩
   · exact R'.own a (.inl h)
   · exact R'.own a (.inr (.inl h))
   · cases h;exact .inr rfl
  obj:=λp o e=>by
   obtain ⟨a,b,h1,h2,h3,O⟩:=R'.obj p o e
   refine ⟨a,b,h1,h2,λq=>?_,O⟩
   rcases q with q|q|⟨_,_,q⟩
   · exact h3 (.inl q)
   · exact h3 (.inr (.inl q))
   · obtain ⟨a',b',g1,g2,g3,O'⟩:=R.obj p o e
     obtain ⟨y,hy⟩:=O'.here
     have h1:w.eta p=some (a,b):=h1
     rw[h1] at g1
     cases g1
     cases q
     rw[hC] at hy;cases hy
  inj:=R'.inj
  nx:=R'.nx
  base:=R'.base
  dom:=R'.dom
  rest:=R'.rest
  pin:=R'.pin},E⟩
theorem Rel.outcomp (hf:f.comp=none) {sc:Scope} {C:Addr} (R:Rel c (f.incomp sc C) w s σ):Rel c f (w.drop C) (noC s) σ∧w.X C∧¬(w.drop C).W C∧(∃m,σ.heap.Ns C m)∧ExtR w σ.heap (w.drop C) σ.heap:=by
 have E:ExtR w σ.heap (w.drop C) σ.heap:=⟨λU U e=>e,λU U e U=>e,λU U U q=>q⟩
 have hown:(f.incomp sc C).Own C:=.inr (.inr ⟨_,_,rfl⟩)
 have hc:=R.comp _ _ C rfl
 refine ⟨{
  bd:=R.bd
  vars:=λx v e=>(R.vars x v e).extR E λn u H=>H
  cvars:=λx v e=>(nomatch (show (none:Option AV)=some v from e))
  ns:=R.ns
  cells:=R.cells
  cellNe:=R.cellNe
  cellInj:=R.cellInj
  comp:=λs' c' a e=>by rw[hf] at e;cases e
  own:=λa h=>?_
  obj:=λp o e=>?_
  inj:=R.inj
  nx:=R.nx
  base:=R.base
  dom:=R.dom
  rest:=R.rest
  pin:=R.pin},w.sub C (R.own C hown),λq=>q.2 rfl,hc.1,E⟩
 · rcases h with h|⟨y,hy,h⟩|⟨_,_,h⟩
   · exact ⟨R.own a (.inl h),λq=>hc.2.1 (q▸h)⟩
   · exact ⟨R.own a (.inr (.inl ⟨y,hy,h⟩)),λq=>hc.2.2 y hy (h.trans q)⟩
   · rw[hf] at h;cases h
 · obtain ⟨a,b,h1,h2,h3,O⟩:=R.obj p o e
   have ne:b≠C:=λq=>h3 (q▸hown)
   refine ⟨a,b,h1,⟨h2,ne⟩,λq=>h3 ?_,O.keepR E rfl ⟨h2,ne⟩⟩
   rcases q with q|q|⟨_,_,q⟩
   · exact .inl q
   · exact .inr (.inl q)
   · rw[hf] at q;cases q
theorem sound_tCvar {n:Str} {pos:Pos} {sc:Scope} (hx:x.comp=some sc) (hs:okS n=true) (hk:sc.names.lookup n=some .local):SoundA c lvl x (.Name n pos) (tCvar (Mine.sc n)):=by
 intro f w s σ A Q E k v d rv fo h rel rm C r post
 have fc:=fo.comp
 rw[hx] at fc
 obtain ⟨cl,a,fc,kd,_,hl⟩:=fc
 have fcur:f.cur=compEnvC sc cl a f.env:=by unfold Fm.cur;rw[fc]
 obtain ⟨⟨m,hm⟩,neL,neC⟩:=rel.comp _ _ _ fc
 have kk:Env.kindOf (compEnvC sc cl a f.env) n=some .local:=lookup_relabel_local hk
 rw[fcur]
 have h:k ⟨s.vars,VL.set (Mine.sc n) v s.cvars,s.hp,s.nx,s.bd⟩=true:=h
 refine wpAny_assign_Name (wpAny_storeName_local (env:=compEnvC sc cl a f.env) kk hm (λh' hn' sb=>?_) (by simp[compEnvC,relabel,kd]))
 have hown:f.Own a:=.inr (.inr ⟨_,_,fc⟩)
 have E':Ext w σ.heap w h':=.write (rel.own _ hown) sb (by obtain ⟨o,_,_,e,_⟩:=hn';exact ⟨o,e⟩)
 have kl:∀o,σ.heap.get? f.env.locals=some o->h'.get? f.env.locals=some o:=λo e=>(sb.2 _ (Ne.symm neL)).trans e
 have kc:∀x∈f.env.cells,∀o,σ.heap.get? x.2=some o->h'.get? x.2=some o:=λx hx o e=>(sb.2 _ (neC x hx)).trans e
 refine post _ w _ h ?_ E'
 exact {
  bd:=rel.bd
  vars:=λx v e=>(rel.vars x v e).ext E' λn u H=>H.keep kl kc
  cvars:=λx u e=>by
   by_cases q:x=Mine.sc n
   · subst q
     have:VL.find (Mine.sc n) (VL.set (Mine.sc n) v s.cvars)=some u:=e
     rw[VL.find_set] at this
     cases this
     exact ⟨n,d,rv,rfl,hs,C,r.ext E',sc,cl,a,fc,kk,_,hn',by simp⟩
   · have:VL.find x (VL.set (Mine.sc n) v s.cvars)=some u:=e
     rw[VL.find_set_ne _ _ _ q] at this
     obtain ⟨m',d',rv',h1,h2,h3,h4,s',c',a',e',k',m₀,hm₀,hv⟩:=rel.cvars x u this
     rw[fc] at e'
     cases e'
     refine ⟨m',d',rv',h1,h2,h3,h4.ext E',sc,cl,a,fc,k',_,hn',?_⟩
     have ne:m'≠n:=λz=>q (by rw[← h1,z])
     show (if m'=n then _ else _)=_
     rw[if_neg ne,hm.agree hm₀ m'];exact hv
  ns:=by obtain ⟨m,hn⟩:=rel.ns;exact ⟨m,hn.at' kl⟩
  cells:=λx hx=>by obtain ⟨v,o,ho,hd⟩:=rel.cells x hx;exact ⟨v,o,kc x hx o ho,hd⟩
  cellNe:=rel.cellNe
  cellInj:=rel.cellInj
  comp:=λs' c' a' e=>by rw[fc] at e;cases e;exact ⟨⟨_,hn'⟩,neL,neC⟩
  own:=rel.own
  obj:=λq x e=>by
   obtain ⟨a',b,h1,h2,h3,O⟩:=rel.obj q x e
   exact ⟨a',b,h1,h2,h3,O.keep E' (sb.2 b λq=>h3 (q▸hown)) h2⟩
  inj:=rel.inj
  nx:=rel.nx
  base:=λx y e=>⟨(sb.2 x λq=>(rel.base x y e).2 (w.sub _ (rel.own _ (q▸hown)))).trans (rel.base x y e).1,(rel.base x y e).2⟩
  dom:=λx hx=>by obtain ⟨o,e⟩:=rel.dom x hx;exact E'.stay _ _ e
  rest:=by obtain ⟨h,tk',e⟩:=rel.rest;exact ⟨h',_,by rw[e]⟩
  pin:=rel.pin}
end
section
variable {c:Cf} {lvl:Nat} {x:Cx}
def SoundIf (c:Cf) (lvl:Nat) (x:Cx) (ifs:List Expr) (T:T):Prop:=
 ∀f w s σ A (Q:Bool->Shared->Prop) E t u,FrOK x f->T s t u=true->Rel c f w s σ->Room A lvl->PostU c f w σ.heap t (Q true)->PostU c f w σ.heap u (Q false)->
  wpAny (model c.prog c.wo) A (forIn ifs true λc r=>if r=true then do let ok ←isTrue c f.cur (eval c f.cur);pure (ForInStep.yield ok) else pure (ForInStep.yield r)) Q E σ
theorem soundIf_nil:SoundIf c lvl x [] yes:=by
 intro f w s σ A Q E t u fo h rel rm pt pu
 exact wpAny_tests_nil (pt.now h rel)
theorem soundIf_one {e:Expr} {T:T} (H:SoundT c lvl x e T):SoundIf c lvl x [e] T:=by
 intro f w s σ A Q E t u fo h rel rm pt pu
 exact wpAny_tests_one (H f w s σ A Q E t u fo h rel rm pt pu)
theorem compLoop_tests {M:Model} {prog:Program} {w:World} {A:Around} {R:Result->Shared->Prop} {s:Shared} {elt target iter:Expr} {ifs:List Expr} {scope:Scope} {pos:Pos} {it acc:Value} {env:Env} (I:Nat->Shared->Prop)
  (turn:∀n s,I n s->wpAny (model prog w) A (pyNext it) (λr s₁=>match r with
    |none=>R (.ok .next) s₁
    |some v=>wpAny (model prog w) A (letOwnedTupleGo target it v) (λU s₁=>wpAny (model prog w) A (assign target env v) (λU s₂=>
      wpAny (model prog w) A (forIn ifs true λc r=>if r=true then do let ok ←isTrue c env (eval c env);pure (ForInStep.yield ok) else pure (ForInStep.yield r)) (λok s₃=>
       if ok=true then wpAny (model prog w) A (eval elt env) (λx s₄=>
        wpAny (model prog w) A (PySem.call (.builtin "list.append") [acc,x]) (λU s₅=>∃m,m<n∧I m s₅) (notedBy (model prog w) A env λe s'=>R (.error e) s') s₄) (notedBy (model prog w) A env λe s'=>R (.error e) s') s₃
       else ∃m,m<n∧I m s₃) (notedBy (model prog w) A env λe s'=>R (.error e) s') s₂) (notedBy (model prog w) A env λe s'=>R (.error e) s') s₁) (notedBy (model prog w) A env λe s'=>R (.error e) s') s₁) (notedBy (model prog w) A env λe s'=>R (.error e) s') s)
  (n:Nat) (h:I n s):
  codeAny (model prog w) A (.compLoop (.ListComp elt [⟨target,iter,ifs,0⟩] scope pos) 0 it acc env) R s:=by
 refine codeAny_loop rfl I (λn s hI=>?_) n h
 show wpAny _ A ((compTurn (.ListComp elt [⟨target,iter,ifs,0⟩] scope pos) 0 it acc env).onRaise (λx=>do noteFrame x env;theTreesLotGoes x)) _ _ s
 refine wpAny_noted ?_
 rw[compTurn_list]
 refine wpAny_bind (wpAny_standAt (wpAny_bind (wpAny_mono (turn n s hI) (λr s₁ h₁=>?_) λU U h'=>h')))
 cases r with
 |none=>exact wpAny_pure h₁
 |some v=>
  refine wpAny_bind (wpAny_mono h₁ (λU s₁ h₁=>?_) λU U h'=>h')
  refine wpAny_bind (wpAny_mono h₁ (λU s₂ h₂=>wpAny_bind (wpAny_mono h₂ (λok s₃ h₃=>?_) λU U h'=>h')) λU U h'=>h')
  cases ok with
  |false=>exact wpAny_pure ⟨rfl,h₃⟩
  |true=>
   exact wpAny_bind (wpAny_bind (wpAny_mono h₃ (λx s₄ h₄=>wpAny_bind (wpAny_mono h₄ (λU s₅ h₅=>wpAny_pure (wpAny_pure ⟨rfl,h₅⟩)) λU U h'=>h')) λU U h'=>h'))
theorem RdL.snoc {Pm:Params} {w:Wd} {h:Heap} {d:CD} {v:Value} {ds:List CD} {vs:List Value} (x:RdL Pm w h ds vs) (r:Rd Pm w h d v):RdL Pm w h (ds++[d]) (vs++[v]):=RdL.ind (.cons r .nil) (λa U x=>.cons a x) x
theorem lc_loop {elt target iter:Expr} {ifs:List Expr} {scope:Scope} {pos:Pos} {Cc:T} {Ta:A} {e:C} (K:SoundA c lvl x target Ta) (I:SoundIf c lvl x ifs Cc) (H:SoundE c lvl x elt e)
  {f:Fm} (fo:FrOK x f) {w w₀:Wd} {h₀:Heap} {s:St} {σ:Shared} {A:Around} {R:Result->Shared->Prop} {it D:Addr} {J:It} {kk:AV->St->Bool} {m:Nat} (rm:Room A lvl) (rel:Rel c f w s σ) (X0:Ext w₀ h₀ w σ.heap) (dom0:∀a,w₀.X a->∃o,h₀.get? a=some o)
  (i0:h₀.get? it=none) (d0:h₀.get? D=none) (hI:ItAt c w σ.heap it J) (iX:w.X it) (iW:¬w.W it) (hD:σ.heap.get? D=some (lObj #[] m)) (dX:w.X D) (dW:¬w.W D) (ne:it≠D) (h:lcL Ta Cc e 100 J s kk=true)
  (fin:∀v s' w' σ' ds ys m,kk v s'=true->Rel c f w' s' σ'->Ext w₀ h₀ w' σ'.heap->ConcL c.ρ v ds->σ'.heap.get? D=some (lObj ys m)->w'.X D->¬w'.W D->RdL c.wo.params w' σ'.heap ds ys.toList->ys.size≤10000->R (.ok .next) σ'):
  codeAny (model c.prog c.wo) A (.compLoop (.ListComp elt [⟨target,iter,ifs,0⟩] scope pos) 0 (.ref it) (.ref D) f.cur) R σ:=by
 refine compLoop_tests (M:=model c.prog c.wo) (λn σ'=>∃J s' w' ds ys m,∃kj:AV->St->Bool,lcL Ta Cc e n J s' kj=true∧(∀v dv s'',kj v s''=true->ConcL c.ρ v dv->∃v',kk v' s''=true∧ConcL c.ρ v' (ds++dv))∧Rel c f w' s' σ'∧Ext w₀ h₀ w' σ'.heap∧
   ItAt c w' σ'.heap it J∧w'.X it∧¬w'.W it∧σ'.heap.get? D=some (lObj ys m)∧w'.X D∧¬w'.W D∧RdL c.wo.params w' σ'.heap ds ys.toList∧ys.size+n≤100) ?_ 100
  ⟨J,s,w,[],#[],m,kk,h,λv dv s'' hk C=>⟨v,hk,C⟩,rel,X0,hI,iX,iW,hD,dX,dW,.nil,Nat.le_refl _⟩
 intro n σ1 h9;obtain ⟨J,s1,w1,ds,ys,m,kj,h1,cl,rel1,X1,I1,iX,iW,hD,dX,dW,rD,sz⟩:=h9
 cases n with
 |zero=>exact fF h1
 |succ n=>
  have h1:nxt J s1 (λh it=>Ta h s1 λs=>Cc s (λs=>e s λv s=>lcL Ta Cc e n it s λvs s=>kj (.cons v vs) s) (λs=>lcL Ta Cc e n it s kj)) (kj .nil s1)=true:=h1
  refine next_true rel1 I1 iX iW rm.handled h1 ?_ ?_
  · intro v J' dv rv h' tk ev sb alive I3 C3 r3
    obtain ⟨rel3,ER⟩:=rel1.side (tk:=tk) iX iW sb alive
    have X3:=X1.side i0 sb
    have hD3:h'.get? D=some (lObj ys m):=(sb.2 D (Ne.symm ne)).trans hD
    dsimp only
    refine ItAt.go (σ:={σ1 with heap:=h',toks:=tk}) I3 ?_
    refine K f w1 s1 {σ1 with heap:=h',toks:=tk} A _ _ _ v dv rv fo ev rel3 rm C3 r3 ?_
    intro s4 w4 σ4 e4 rel4 X4
    have rD3:RdL c.wo.params w1 h' ds ys.toList:=rD.extR ER
    have go:∀(s5:St) (w5:Wd) (σ5:Shared),Rel c f w5 s5 σ5->Ext w1 h' w5 σ5.heap->Ext w₀ h₀ w5 σ5.heap∧ItAt c w5 σ5.heap it J'∧w5.X it∧¬w5.W it∧σ5.heap.get? D=some (lObj ys m)∧w5.X D∧¬w5.W D∧RdL c.wo.params w5 σ5.heap ds ys.toList:=by
     intro s5 w5 σ5 rel5 X5
     obtain ⟨oi,hoi⟩:=alive
     obtain ⟨g,iX5,iW5⟩:=X5.shielded hoi iX iW
     obtain ⟨gD,dX5,dW5⟩:=X5.shielded hD3 dX dW
     exact ⟨X3.trans X5,I3.ext X5.r (g.trans hoi.symm),iX5,iW5,gD,dX5,dW5,rD3.ext X5⟩
    refine I f w4 s4 σ4 A _ _ _ _ fo e4 rel4 rm ?_ ?_
    · intro s5 w5 σ5 e5 rel5 X5
      simp only[if_true]
      refine H f w5 s5 σ5 A _ _ _ fo e5 rel5 rm ?_
      intro v6 s6 w6 σ6 d6 rv6 e6 rel6 X6 C6 r6
      obtain ⟨X0',I6,iX6,iW6,hD6,dX6,dW6,rD6⟩:=go s6 w6 σ6 rel6 (X4.trans (X5.trans X6))
      refine append_at hD6 (λh7 sb7 hD7=>?_) (by rw[sizeLine_eq];omega)
      obtain ⟨rel7,ER7⟩:=rel6.side (tk:=σ6.toks) dX6 dW6 sb7 ⟨_,hD7⟩
      refine ⟨n,Nat.lt_succ_self n,J',s6,w6,ds++[d6],ys.push rv6,m+1,_,e6,?_,rel7,X0'.side d0 sb7,I6.ext ER7 (sb7.2 it ne),iX6,iW6,hD7,dX6,dW6,?_,by rw[Array.size_push];omega⟩
      · intro v dv s'' hk C
        obtain ⟨v',g1,g2⟩:=cl (.cons v6 v) (d6::dv) s'' hk (.cons C6 C)
        exact ⟨v',g1,by rw[List.append_assoc];exact g2⟩
      · rw[Array.toList_push]
        exact (rD6.extR ER7).snoc (r6.extR ER7)
    · intro s5 w5 σ5 e5 rel5 X5
      simp only[Bool.false_eq_true,if_false]
      obtain ⟨X0',I6,iX6,iW6,hD6,dX6,dW6,rD6⟩:=go s5 w5 σ5 rel5 (X4.trans X5)
      exact ⟨n,Nat.lt_succ_self n,J',s5,w5,ds,ys,m,kj,e5,cl,rel5,X0',I6,iX6,iW6,hD6,dX6,dW6,rD6,by omega⟩
  · intro en h' eb
    obtain ⟨rel3,ER⟩:=rel1.gone (tk:=σ1.toks) iX iW eb
    obtain ⟨v',g1,g2⟩:=cl .nil [] s1 en .nil
    rw[List.append_nil] at g2
    exact fin v' s1 _ _ ds ys m g1 rel3 (X1.gone iW i0 dom0 eb) g2 (eb D _ (Ne.symm ne) hD) ⟨dX,Ne.symm ne⟩ dW (rD.extR ER) (by omega)
end
section
variable {c:Cf} {lvl:Nat} {x:Cx}
theorem ItAt.self {w:Wd} {σ:Shared} {it:Addr} {I:It} (x:ItAt c w σ.heap it I) {prog:Program} {wo:World} {A:Around} {E:Value->Shared->Prop} {Q:Value->Shared->Prop} (h:Q (.ref it) σ):wpAny (model prog wo) A (pyIter (.ref it)) Q E σ:=by
 cases x with
 |tup a=>exact wpAny_pyIter_tupleiter a h
 |lst a=>exact wpAny_pyIter_listiter a h
 |dic a=>exact wpAny_pyIter_keyiter a h
 |byt a=>exact KBw.pyIter_self a h
 |rng a=>exact wpAny_pyIter_rangeiter a h
 |ls _ a=>exact wpAny_pyIter_listiter a h
 |dk _ a=>exact wpAny_pyIter_keyiter a h
theorem Ext.drop {w w':Wd} {h h':Heap} (X:Ext w h w' h') {C:Addr}:Ext w h (w'.drop C) h':=⟨X.eta,X.keep,X.freshX,λa o e q=>X.freshW a o e q.1,X.stay,X.mono⟩
theorem none_of {w w':Wd} {h h':Heap} (X:Ext w h w' h') {a:Addr} (e:h'.get? a=none):h.get? a=none:=by
 cases q:h.get? a with
 |none=>rfl
 |some o=>obtain ⟨o',e'⟩:=X.stay a o q;rw[e] at e';cases e'
theorem lc_block {elt target iter:Expr} {ifs:List Expr} {sc:Scope} {pos:Pos} {Cc:T} {Ta:A} {e:C} (hc:compScope x.scope sc=true) (Kt:SoundA c lvl ⟨x.scope,some sc⟩ target Ta) (I:SoundIf c lvl ⟨x.scope,some sc⟩ ifs Cc) (H:SoundE c lvl ⟨x.scope,some sc⟩ elt e)
  {f:Fm} (fo:FrOK x f) (hf:f.comp=none) {w w₀:Wd} {h₀:Heap} {s:St} {σ:Shared} {A:Around} {E:Value->Shared->Prop} {RR:Value->Addr->Result->Shared->Prop} {it:Addr} {J:It} {k:K AV} (rm:Room A lvl) (rel:Rel c f w s σ) (X0:Ext w₀ h₀ w σ.heap) (dom0:∀a,w₀.X a->∃o,h₀.get? a=some o)
  (i0:h₀.get? it=none) (hI:ItAt c w σ.heap it J) (iX:w.X it) (iW:¬w.W it) (h:lcL Ta Cc e 100 J (noC s) (λvs s=>k (.lst vs) (noC s))=true)
  (fin:∀v s' w' σ' d D C,k v s'=true->Rel c f w' s' σ'->Ext w₀ h₀ w' σ'.heap->Conc c.ρ v d->Rd c.wo.params w' σ'.heap d (.ref D)->(∃m,σ'.heap.Ns C m)->w'.X C->¬w'.W C->h₀.get? C=none->RR (.ref D) C (.ok .next) σ'):
  wpAny (model c.prog c.wo) A (newList []) (λacc s₃=>wpAny (model c.prog c.wo) A (newFunctionEnv sc f.env.globals (closeL f.env.cells sc.names []) [] f.env.qual none .none (some f.env)) (λcenv s₄=>
   codeAny (model c.prog c.wo) A (.compStart (.ListComp elt [⟨target,iter,ifs,0⟩] sc pos) 0 (.ref it) acc {cenv with scope:=relabel sc f.env}) (RR acc cenv.locals) s₄) E s₃) E σ:=by
 obtain ⟨c1,c2,c3,c4⟩:=comp_parts hc
 refine wpAny_newObj_type (wpAny_newFunctionEnv c2 (by intro y hy;simp at hy) (λh₁ hns₁ hsb₁=>?_) c1)
 dsimp only at hns₁ hsb₁ ⊢
 have k1:∀a o,σ.heap.get? a=some o->(σ.heap.push (lObj #[] 0)).get? a=some o:=λa o e=>Heap.get?_push_of_some _ e
 have hD0:=Heap.none_size σ.heap
 obtain ⟨relD,XD⟩:=rel.shield (tk:=σ.toks) hD0 k1 ⟨_,Heap.get?_push_size _ rfl⟩
 have dW0:¬w.W σ.heap.objs.size:=λq=>by obtain ⟨o,e⟩:=rel.dom _ (w.sub _ q);rw[hD0] at e;cases e
 have gD:(σ.heap.push (lObj #[] 0)).get? σ.heap.objs.size=some (lObj #[] 0):=Heap.get?_push_size _ rfl
 have iD:it≠σ.heap.objs.size:=λq=>by obtain ⟨o,e⟩:=rel.dom it iX;rw[q,hD0] at e;cases e
 have hsb₁:Heap.SameBut (σ.heap.push (lObj #[] 0)).objs.size ((σ.heap.push (lObj #[] 0)).push {cls:=.type "dict",data:=.dict #[]}) h₁:=hsb₁
 have hns₁:∃m,h₁.Ns (σ.heap.push (lObj #[] 0)).objs.size m:=⟨_,hns₁⟩
 show codeAny _ A (.compStart (.ListComp elt [⟨target,iter,ifs,0⟩] sc pos) 0 (.ref it) (.ref σ.heap.objs.size) (compEnvC sc (closeL f.env.cells sc.names []) (σ.heap.push (lObj #[] 0)).objs.size f.env)) (RR (.ref σ.heap.objs.size) (σ.heap.push (lObj #[] 0)).objs.size) _
 generalize hDD:σ.heap.objs.size=D at*
 generalize hH:σ.heap.push (lObj #[] 0)=H1 at*
 have hC0:=Heap.none_size H1
 generalize hCC:H1.objs.size=C at*
 have k2:∀a o,H1.get? a=some o->h₁.get? a=some o:=λa o e=>hsb₁.extBut a o (λq=>by rw[q,hC0] at e;cases e) (Heap.get?_push_of_some _ e)
 obtain ⟨relC,XC⟩:=Rel.incomp (tk:=σ.toks+0) (sc:=sc) relD hf hC0 k2 hns₁
 have d0:h₀.get? D=none:=none_of X0 hD0
 have cc0:h₀.get? C=none:=none_of (X0.trans XD) hC0
 have CD:C≠D:=λq=>by rw[q,gD] at hC0;cases hC0
 have XX:=X0.trans (XD.trans XC)
 have EI:ExtR w σ.heap ((w.shield D).own C) h₁:=(XD.trans XC).r
 have iC:it≠C:=λq=>by obtain ⟨o,e⟩:=rel.dom it iX;have:=k1 _ _ e;rw[q,hC0] at this;cases this
 have gI:h₁.get? it=σ.heap.get? it:=by obtain ⟨o,e⟩:=rel.dom it iX;rw[e];exact k2 _ _ (k1 _ _ e)
 have fcur:(f.incomp sc C).cur=compEnvC sc (closeL f.env.cells sc.names []) C f.env:=rfl
 have loop:=lc_loop (iter:=iter) (pos:=pos) (scope:=sc) (m:=0) (R:=RR (.ref D) C) Kt I H ((comp_close fo hc).2 C) rm relC XX dom0 i0 d0 (hI.ext EI gI) (.inl (.inl iX)) (λq=>q.elim iW iC) (k2 _ _ gD) (.inl (.inr rfl)) (λq=>q.elim dW0 (Ne.symm CD)) iD h (by
  intro v s' w' σ' ds ys m hk rel' X' C' gD' dX dW rD sz
  obtain ⟨rel2,cX,cW,hn,E2⟩:=Rel.outcomp hf rel'
  obtain ⟨rel3,E3⟩:=rel2.bare (b:=D) (λq=>dW q.1)
  have X3:Ext w₀ h₀ ((w'.drop C).bare D (λq=>dW q.1)) σ'.heap:=X'.drop.bare (λq=>dW q.1) d0 dom0
  refine fin (.lst v) _ _ σ' (.lst ds) D C hk rel3 X3 (.lst C') (.lst gD' rfl rfl ⟨λq=>q.2 rfl,sz⟩ ((rD.extR E2).extR E3) rfl) hn ⟨cX,CD⟩ cW cc0)
 rw[fcur] at loop
 have I':ItAt c ((w.shield D).own C) ({σ with heap:=h₁,toks:=σ.toks+0}:Shared).heap it J:=hI.ext EI gI
 exact codeAny_compStart_list loop (I'.self (σ:={σ with heap:=h₁,toks:=σ.toks+0}) loop)
theorem sound_lc {elt target iter:Expr} {ifs:List Expr} {sc:Scope} {pos:Pos} {Cc:T} {Ta:A} {It:I} {e:C} (hx:x.comp=none) (hc:compScope x.scope sc=true) (G:SoundI c lvl x iter It) (Kt:SoundA c lvl ⟨x.scope,some sc⟩ target Ta) (I:SoundIf c lvl ⟨x.scope,some sc⟩ ifs Cc)
  (H:SoundE c lvl ⟨x.scope,some sc⟩ elt e):SoundE c lvl x (.ListComp elt [⟨target,iter,ifs,0⟩] sc pos) (lc e Ta It Cc):=by
 intro f w s σ A Q E k fo h rel rm post
 have h:It s (λx s=>lcL Ta Cc e 100 x (noC s) λvs s=>k (.lst vs) (noC s))=true:=h
 obtain ⟨fc,fcur⟩:=fo.cur_none hx
 obtain ⟨c1,c2,c3,c4⟩:=comp_parts hc
 have G':=G.2 f w s σ A (λit s₂=>wpAny (model c.prog c.wo) A (newList []) (λacc s₃=>wpAny (model c.prog c.wo) A (newFunctionEnv sc f.env.globals (closeL f.env.cells sc.names []) [] f.env.qual none .none (some f.env)) (λcenv s₄=>
   codeAny (model c.prog c.wo) A (.compStart (.ListComp elt [⟨target,iter,ifs,0⟩] sc pos) 0 it acc {cenv with scope:=relabel sc f.env}) (compPost (model c.prog c.wo) A E none Q acc cenv.locals) s₄) E s₃) E s₂) E _ fo h rel rm
  (by
    intro J it s1 w1 σ1 e1 rel1 X1 I1 iX iW i0
    refine lc_block (RR:=λacc C=>compPost (model c.prog c.wo) A E none Q acc C) (iter:=iter) (pos:=pos) hc Kt I H fo fc rm rel1 X1 rel.dom i0 I1 iX iW e1 ?_
    rintro v s' w' σ' d D C hk rel' X' C' rD ⟨m,hn⟩ cX cW c0
    refine ⟨m,hn,λh' sb=>?_⟩
    obtain ⟨rel4,E4⟩:=rel'.gone (tk:=σ'.toks) cX cW sb.extBut
    exact post v s' _ _ d _ hk rel4 (X'.gone cW c0 rel.dom sb.extBut) C' (rD.extR E4))
 rw[fcur] at G' ⊢
 rw[eval_ListComp]
 exact wpAny_comprehension_free (use:=none) rfl (λv=>noSet_folded G.1) (comp_close fo hc).1 c1 c3 G'
end
noncomputable def swapSt (x:Cx) (l:Nat) (t:Expr) (sc:Scope):Bool:=onName t (λU=>false) λn pos=>x.scope.names.lookup n==some .local&&pos.line==l&&!(sc.names.any λy=>y.1==n&&(y.2==.local||y.2==.cell))
noncomputable def swapStat (x:Cx) (e t:Expr):Bool:=onLC e (λe=>onSC e (λe=>onDC e (λU=>false) λU U U s p=>swapSt x p.line t s) λU U s p=>swapSt x p.line t s) λU U s p=>swapSt x p.line t s
section
variable {c:Cf} {lvl:Nat} {x:Cx}
theorem swap_stat {e t:Expr} {line:Nat} {f:Fm} (hx:x.comp=none) (fo:FrOK x f):swapsWith e (some t) line f.cur=pure (swapStat x e t):=by
 obtain ⟨fc,fcur⟩:=fo.cur_none hx
 rw[fcur]
 have key:∀n,(f.env.kindOf n==some .local)=(x.scope.names.lookup n==some .local):=λn=>by unfold Env.kindOf;rw[fo.scope]
 have bk:(f.env.blockKind==ScopeKind.function)=true:=by
  unfold Env.blockKind
  rw[fo.scope,fo.kind];rfl
 cases e<;>first
  |rfl
  |(cases t<;>first
     |rfl
     |(unfold swapsWith
       dsimp only
       rw[bk,key]
       rfl))
set_option tactic.hygienic true in
theorem sound_asg_lc {elt target iter:Expr} {ifs:List Expr} {sc:Scope} {y:Str} {py pos spos:Pos} {Cc:T} {Ta Ty:A} {It:I} {e:C} (hx:x.comp=none) (hs:swapStat x (.ListComp elt [⟨target,iter,ifs,0⟩] sc pos) (.Name y py)=true) (Y:SoundA c lvl x (.Name y py) Ty)
  (hc:compScope x.scope sc=true) (G:SoundI c lvl x iter It) (Kt:SoundA c lvl ⟨x.scope,some sc⟩ target Ta) (I:SoundIf c lvl ⟨x.scope,some sc⟩ ifs Cc)
  (H:SoundE c lvl ⟨x.scope,some sc⟩ elt e):SoundX c lvl x (.Assign [.Name y py] (.ListComp elt [⟨target,iter,ifs,0⟩] sc pos) spos) (asg Ty (lc e Ta It Cc)):=by
 intro f w s σ A Q E n r t fo h rel rm pn pr pt
 have h:It s (λx s=>lcL Ta Cc e 100 x (noC s) λvs s=>Ty (.lst vs) (noC s) n)=true:=h
 obtain ⟨fc,fcur⟩:=fo.cur_none hx
 obtain ⟨c1,c2,c3,c4⟩:=comp_parts hc
 have hsw:swapsWith (.ListComp elt [⟨target,iter,ifs,0⟩] sc pos) (some (.Name y py)) spos.line f.cur=pure true:=by rw[swap_stat hx fo,hs]
 have G':=G.2 f w s σ A (λit s₂=>wpAny (model c.prog c.wo) A (newList []) (λacc s₃=>wpAny (model c.prog c.wo) A (newFunctionEnv sc f.env.globals (closeL f.env.cells sc.names []) [] f.env.qual none .none (some f.env)) (λcenv s₄=>
   codeAny (model c.prog c.wo) A (.compStart (.ListComp elt [⟨target,iter,ifs,0⟩] sc pos) 0 it acc {cenv with scope:=relabel sc f.env}) (compPost (model c.prog c.wo) A E (some (assign (.Name y py) f.env)) (λU s'=>Q .next s') acc cenv.locals) s₄) E s₃) E s₂) E _ fo h rel rm
  (by
    intro J it s1 w1 σ1 e1 rel1 X1 I1 iX iW i0
    refine lc_block (k:=λv s=>Ty v s n) (RR:=λacc C=>compPost (model c.prog c.wo) A E (some (assign (.Name y py) f.env)) (λU s'=>Q .next s') acc C) (iter:=iter) (pos:=pos) hc Kt I H fo fc rm rel1 X1 rel.dom i0 I1 iX iW e1 ?_
    rintro v s' w' σ' d D C hk rel' X' C' rD ⟨m,hn⟩ cX cW c0
    show wpAny _ A (assign (.Name y py) f.env (.ref D)) _ _ _
    have Y':=Y f w' s' σ' A (λU s''=>∃m,s''.heap.Ns C m∧∀h',Heap.SameBut C s''.heap h'->Q .next {s'' with heap:=h'}) E n v d (.ref D) fo hk rel' rm C' rD ?_
    · rw[fcur] at Y';exact Y'
    · intro s2 w2 σ2 e2 rel2 X2
      have hnC:=hn
      obtain ⟨o,es,ep,eo,rest⟩:=hn
      obtain ⟨g2,cX2,cW2⟩:=X2.shielded eo cX cW
      refine ⟨m,⟨o,es,ep,g2,rest⟩,λh' sb=>?_⟩
      obtain ⟨rel4,E4⟩:=rel2.gone (tk:=σ2.toks) cX2 cW2 sb.extBut
      exact pn s2 _ _ e2 rel4 ((X'.trans X2).gone cW2 c0 rel.dom sb.extBut))
 rw[fcur] at G' hsw ⊢
 rw[exec_Assign_Name_used _ _ _ _ hsw]
 refine wpAny_bind (wpAny_standAt (wpAny_bind ?_))
 show wpAny _ A (do let _ ←comprehension (.ListComp elt [⟨target,iter,ifs,0⟩] sc pos) sc f.env _ (newList []) false (eval iter f.env) (some (assign (.Name y py) f.env))) _ _ σ
 exact wpAny_bind (wpAny_mono (wpAny_comprehension_free (use:=some (assign (.Name y py) f.env)) (Q:=λU s'=>Q .next s') rfl (λv=>noSet_folded G.1) (comp_close fo hc).1 c1 c3 G') (λU s' hq=>wpAny_pure (wpAny_pure hq)) λU U e=>e)
end
section
variable {c:Cf} {lvl:Nat} {x:Cx}
theorem compLoop_testsD {M:Model} {prog:Program} {w:World} {A:Around} {R:Result->Shared->Prop} {s:Shared} {kx vx target iter:Expr} {ifs:List Expr} {scope:Scope} {pos:Pos} {it:Value} {D:Addr} {env:Env} (I:Nat->Shared->Prop)
  (turn:∀n s,I n s->wpAny (model prog w) A (pyNext it) (λr s₁=>match r with
    |none=>R (.ok .next) s₁
    |some v=>wpAny (model prog w) A (letOwnedTupleGo target it v) (λU s₁=>wpAny (model prog w) A (assign target env v) (λU s₂=>
      wpAny (model prog w) A (forIn ifs true λc r=>if r=true then do let ok ←isTrue c env (eval c env);pure (ForInStep.yield ok) else pure (ForInStep.yield r)) (λok s₃=>
       if ok=true then wpAny (model prog w) A (eval kx env) (λkv s₄=>wpAny (model prog w) A (eval vx env) (λvv s₅=>
        wpAny (model prog w) A (dictSet D kv vv) (λU s₆=>∃m,m<n∧I m s₆) (notedBy (model prog w) A env λe s'=>R (.error e) s') s₅) (notedBy (model prog w) A env λe s'=>R (.error e) s') s₄) (notedBy (model prog w) A env λe s'=>R (.error e) s') s₃
       else ∃m,m<n∧I m s₃) (notedBy (model prog w) A env λe s'=>R (.error e) s') s₂) (notedBy (model prog w) A env λe s'=>R (.error e) s') s₁) (notedBy (model prog w) A env λe s'=>R (.error e) s') s₁) (notedBy (model prog w) A env λe s'=>R (.error e) s') s)
  (n:Nat) (h:I n s):
  codeAny (model prog w) A (.compLoop (.DictComp kx vx [⟨target,iter,ifs,0⟩] scope pos) 0 it (.ref D) env) R s:=by
 refine codeAny_loop rfl I (λn s hI=>?_) n h
 show wpAny _ A ((compTurn (.DictComp kx vx [⟨target,iter,ifs,0⟩] scope pos) 0 it (.ref D) env).onRaise (λx=>do noteFrame x env;theTreesLotGoes x)) _ _ s
 refine wpAny_noted ?_
 rw[compTurn_dict]
 refine wpAny_bind (wpAny_standAt (wpAny_bind (wpAny_mono (turn n s hI) (λr s₁ h₁=>?_) λU U h'=>h')))
 cases r with
 |none=>exact wpAny_pure h₁
 |some v=>
  refine wpAny_bind (wpAny_mono h₁ (λU s₁ h₁=>?_) λU U h'=>h')
  refine wpAny_bind (wpAny_mono h₁ (λU s₂ h₂=>wpAny_bind (wpAny_mono h₂ (λok s₃ h₃=>?_) λU U h'=>h')) λU U h'=>h')
  cases ok with
  |false=>exact wpAny_pure ⟨rfl,h₃⟩
  |true=>
   exact wpAny_bind (wpAny_bind (wpAny_mono h₃ (λkv s₄ h₄=>wpAny_bind (wpAny_holding (wpAny_mono h₄ (λvv s₅ h₅=>wpAny_bind (wpAny_standAt (wpAny_holding (wpAny_mono h₅ (λU s₆ h₆=>wpAny_pure ⟨rfl,h₆⟩) λU U h'=>h')))) λU U h'=>h'))) λU U h'=>h'))
open Classical in
theorem dc_loop {kx vx target iter:Expr} {ifs:List Expr} {scope:Scope} {pos:Pos} {Cc:T} {Ta:A} {q e:C} (Kt:SoundA c lvl x target Ta) (I:SoundIf c lvl x ifs Cc) (Hk:SoundE c lvl x kx q) (H:SoundE c lvl x vx e)
  {f:Fm} (fo:FrOK x f) {w w₀:Wd} {h₀:Heap} {s:St} {σ:Shared} {A:Around} {R:Result->Shared->Prop} {it D:Addr} {J:It} {kk:AV->St->Bool} (rm:Room A lvl) (rel:Rel c f w s σ) (X0:Ext w₀ h₀ w σ.heap) (dom0:∀a,w₀.X a->∃o,h₀.get? a=some o)
  (i0:h₀.get? it=none) (d0:h₀.get? D=none) (hI:ItAt c w σ.heap it J) (iX:w.X it) (iW:¬w.W it) (hD:σ.heap.get? D=some (dObj #[] 0)) (dX:w.X D) (dW:¬w.W D) (ne:it≠D) (h:dcL Ta Cc q e 100 J .nil s kk=true)
  (fin:∀v s' w' σ' ds es ep,kk v s'=true->Rel c f w' s' σ'->Ext w₀ h₀ w' σ'.heap->ConcD c.ρ v ds->σ'.heap.get? D=some (dObj es ep)->w'.X D->¬w'.W D->RdE c.wo.params w' σ'.heap ds es.toList->(ds.map (·.1)).Nodup->es.size≤10000->R (.ok .next) σ'):
  codeAny (model c.prog c.wo) A (.compLoop (.DictComp kx vx [⟨target,iter,ifs,0⟩] scope pos) 0 (.ref it) (.ref D) f.cur) R σ:=by
 refine compLoop_testsD (M:=model c.prog c.wo) (λn σ'=>∃J acc s' w' ds es ep,dcL Ta Cc q e n J acc s' kk=true∧ConcD c.ρ acc ds∧Rel c f w' s' σ'∧Ext w₀ h₀ w' σ'.heap∧
   ItAt c w' σ'.heap it J∧w'.X it∧¬w'.W it∧σ'.heap.get? D=some (dObj es ep)∧w'.X D∧¬w'.W D∧RdE c.wo.params w' σ'.heap ds es.toList∧(ds.map (·.1)).Nodup∧es.size+n≤100) ?_ 100
  ⟨J,.nil,s,w,[],#[],0,h,.nil,rel,X0,hI,iX,iW,hD,dX,dW,.nil,.nil,Nat.le_refl _⟩
 intro n σ1 h9;obtain ⟨J,acc,s1,w1,ds,es,ep,h1,Ca,rel1,X1,I1,iX,iW,hD,dX,dW,rD,nd,sz⟩:=h9
 cases n with
 |zero=>exact fF h1
 |succ n=>
  have h1:nxt J s1 (λh it=>Ta h s1 λs=>Cc s (λs=>q s λkq s=>e s λv s=>and (keyA kq 6) (putD s.bd kq v acc λacc U=>dcL Ta Cc q e n it acc s kk)) (λs=>dcL Ta Cc q e n it acc s kk)) (kk acc s1)=true:=h1
  refine next_true rel1 I1 iX iW rm.handled h1 ?_ ?_
  · intro v J' dv rv h' tk ev sb alive I3 C3 r3
    obtain ⟨rel3,ER⟩:=rel1.side (tk:=tk) iX iW sb alive
    have X3:=X1.side i0 sb
    have hD3:h'.get? D=some (dObj es ep):=(sb.2 D (Ne.symm ne)).trans hD
    dsimp only
    refine ItAt.go (σ:={σ1 with heap:=h',toks:=tk}) I3 ?_
    refine Kt f w1 s1 {σ1 with heap:=h',toks:=tk} A _ _ _ v dv rv fo ev rel3 rm C3 r3 ?_
    intro s4 w4 σ4 e4 rel4 X4
    have rD3:=rD.extR ER
    have go:∀(s5:St) (w5:Wd) (σ5:Shared),Rel c f w5 s5 σ5->Ext w1 h' w5 σ5.heap->Ext w₀ h₀ w5 σ5.heap∧ItAt c w5 σ5.heap it J'∧w5.X it∧¬w5.W it∧σ5.heap.get? D=some (dObj es ep)∧w5.X D∧¬w5.W D∧RdE c.wo.params w5 σ5.heap ds es.toList:=by
     intro s5 w5 σ5 rel5 X5
     obtain ⟨oi,hoi⟩:=alive
     obtain ⟨g,iX5,iW5⟩:=X5.shielded hoi iX iW
     obtain ⟨gD,dX5,dW5⟩:=X5.shielded hD3 dX dW
     exact ⟨X3.trans X5,I3.ext X5.r (g.trans hoi.symm),iX5,iW5,gD,dX5,dW5,rD3.ext X5⟩
    refine I f w4 s4 σ4 A _ _ _ _ fo e4 rel4 rm ?_ ?_
    · intro s5 w5 σ5 e5 rel5 X5
      simp only[if_true]
      refine Hk f w5 s5 σ5 A _ _ _ fo e5 rel5 rm ?_
      intro kq s6 w6 σ6 d6 rv6 e6 rel6 X6 C6 r6
      refine H f w6 s6 σ6 A _ _ _ fo e6 rel6 rm ?_
      intro v7 s7 w7 σ7 d7 rv7 e7 rel7 X7 C7 r7
      rw[Bool.and_eq_true] at e7
      have hq:=(keyA_conc kq).1 6 d6 e7.1 C6
      obtain ⟨X0',I7,iX7,iW7,hD7,dX7,dW7,rD7⟩:=go s7 w7 σ7 rel7 (X4.trans (X5.trans (X6.trans X7)))
      obtain ⟨acc',m,h2,Ca',hm⟩:=putD_dec rel7.bd C6 C7 hq Ca rD7.keys e7.2
      have hu:=rm.units
      refine dictSet_key (by omega) hq (r6.ext X7) r7 hD7 rD7 nd dX7 (by rw[sizeLine_eq];omega) λh8 es8 ep8 tk8 g8 sb8 re8 hep=>?_
      obtain ⟨rel8,ER8⟩:=rel7.side (tk:=tk8) dX7 dW7 sb8 ⟨_,g8⟩
      have e1:=re8.length
      have e2:=rD7.length
      have e3:=putK_length (k:=d6) (v:=d7) ds
      have e4:es8.toList.length=es8.size:=Array.length_toList
      have e5:es.toList.length=es.size:=Array.length_toList
      exact ⟨n,Nat.lt_succ_self n,J',acc',s7,w7,_,es8,ep8,h2,Ca',rel8,X0'.side d0 sb8,I7.ext ER8 (sb8.2 it ne),iX7,iW7,g8,dX7,dW7,re8,putK_nodup nd,by omega⟩
    · intro s5 w5 σ5 e5 rel5 X5
      simp only[Bool.false_eq_true,if_false]
      obtain ⟨X0',I6,iX6,iW6,hD6,dX6,dW6,rD6⟩:=go s5 w5 σ5 rel5 (X4.trans X5)
      exact ⟨n,Nat.lt_succ_self n,J',acc,s5,w5,ds,es,ep,e5,Ca,rel5,X0',I6,iX6,iW6,hD6,dX6,dW6,rD6,nd,by omega⟩
  · intro en h' eb
    obtain ⟨rel3,ER⟩:=rel1.gone (tk:=σ1.toks) iX iW eb
    exact fin acc s1 _ _ ds es ep en rel3 (X1.gone iW i0 dom0 eb) Ca (eb D _ (Ne.symm ne) hD) ⟨dX,Ne.symm ne⟩ dW (rD.extR ER) nd (by omega)
theorem sound_dc {kx vx target iter:Expr} {ifs:List Expr} {sc:Scope} {pos:Pos} {Cc:T} {Ta:A} {It:I} {q e:C} (ok:CfOK c) (hx:x.comp=none) (hc:compScope x.scope sc=true) (G:SoundI c lvl x iter It) (Kt:SoundA c lvl ⟨x.scope,some sc⟩ target Ta) (I:SoundIf c lvl ⟨x.scope,some sc⟩ ifs Cc)
  (Hk:SoundE c lvl ⟨x.scope,some sc⟩ kx q) (H:SoundE c lvl ⟨x.scope,some sc⟩ vx e):SoundE c lvl x (.DictComp kx vx [⟨target,iter,ifs,0⟩] sc pos) (dc q e Ta It Cc):=by
 intro f w s σ A Q E k fo h rel rm post
 have h:It s (λx s=>dcL Ta Cc q e 100 x .nil (noC s) λvs s=>k (.dic vs) (noC s))=true:=h
 obtain ⟨fc,fcur⟩:=fo.cur_none hx
 obtain ⟨c1,c2,c3,c4⟩:=comp_parts hc
 have G':=G.2 f w s σ A (λit s₂=>wpAny (model c.prog c.wo) A newDict (λacc s₃=>wpAny (model c.prog c.wo) A (newFunctionEnv sc f.env.globals (closeL f.env.cells sc.names []) [] f.env.qual none .none (some f.env)) (λcenv s₄=>
   codeAny (model c.prog c.wo) A (.compStart (.DictComp kx vx [⟨target,iter,ifs,0⟩] sc pos) 0 it acc {cenv with scope:=relabel sc f.env}) (compPost (model c.prog c.wo) A E none Q acc cenv.locals) s₄) E s₃) E s₂) E _ fo h rel rm
  (by
    intro J it s1 w1 σ1 e1 rel1 X1 hI iX iW i0
    refine wpAny_newObj_type (wpAny_newFunctionEnv c2 (by intro y hy;simp at hy) (λh₁ hns₁ hsb₁=>?_) c1)
    dsimp only at hns₁ hsb₁ ⊢
    have k1:∀a o,σ1.heap.get? a=some o->(σ1.heap.push (dObj #[] 0)).get? a=some o:=λa o e=>Heap.get?_push_of_some _ e
    have hD0:=Heap.none_size σ1.heap
    obtain ⟨relD,XD⟩:=rel1.shield (tk:=σ1.toks) hD0 k1 ⟨_,Heap.get?_push_size _ rfl⟩
    have dW0:¬w1.W σ1.heap.objs.size:=λq=>by obtain ⟨o,e⟩:=rel1.dom _ (w1.sub _ q);rw[hD0] at e;cases e
    have gD:(σ1.heap.push (dObj #[] 0)).get? σ1.heap.objs.size=some (dObj #[] 0):=Heap.get?_push_size _ rfl
    have iD:it≠σ1.heap.objs.size:=λq=>by obtain ⟨o,e⟩:=rel1.dom it iX;rw[q,hD0] at e;cases e
    have hsb₁:Heap.SameBut (σ1.heap.push (dObj #[] 0)).objs.size ((σ1.heap.push (dObj #[] 0)).push {cls:=.type "dict",data:=.dict #[]}) h₁:=hsb₁
    have hns₁:∃m,h₁.Ns (σ1.heap.push (dObj #[] 0)).objs.size m:=⟨_,hns₁⟩
    have hsys:=base_ne ok rel1
    show codeAny _ A (.compStart (.DictComp kx vx [⟨target,iter,ifs,0⟩] sc pos) 0 (.ref it) (.ref σ1.heap.objs.size) (compEnvC sc (closeL f.env.cells sc.names []) (σ1.heap.push (dObj #[] 0)).objs.size f.env)) (compPost (model c.prog c.wo) A E none Q (.ref σ1.heap.objs.size) (σ1.heap.push (dObj #[] 0)).objs.size) _
    generalize hDD:σ1.heap.objs.size=D at*
    generalize hH:σ1.heap.push (dObj #[] 0)=H1 at*
    have hC0:=Heap.none_size H1
    generalize hCC:H1.objs.size=C at*
    have k2:∀a o,H1.get? a=some o->h₁.get? a=some o:=λa o e=>hsb₁.extBut a o (λq=>by rw[q,hC0] at e;cases e) (Heap.get?_push_of_some _ e)
    obtain ⟨relC,XC⟩:=Rel.incomp (tk:=σ1.toks+0) (sc:=sc) relD fc hC0 k2 hns₁
    have d0:σ.heap.get? D=none:=none_of X1 hD0
    have cc0:σ.heap.get? C=none:=none_of (X1.trans XD) hC0
    have CD:C≠D:=λq=>by rw[q,gD] at hC0;cases hC0
    have XX:=X1.trans (XD.trans XC)
    have EI:ExtR w1 σ1.heap ((w1.shield D).own C) h₁:=(XD.trans XC).r
    have iC:it≠C:=λq=>by obtain ⟨o,e⟩:=rel1.dom it iX;have:=k1 _ _ e;rw[q,hC0] at this;cases this
    have gI:h₁.get? it=σ1.heap.get? it:=by obtain ⟨o,e⟩:=rel1.dom it iX;rw[e];exact k2 _ _ (k1 _ _ e)
    have fcur':(f.incomp sc C).cur=compEnvC sc (closeL f.env.cells sc.names []) C f.env:=rfl
    have loop:=dc_loop (iter:=iter) (pos:=pos) (scope:=sc) (R:=compPost (model c.prog c.wo) A E none Q (.ref D) C) Kt I Hk H ((comp_close fo hc).2 C) rm relC XX rel.dom i0 d0 (hI.ext EI gI) (.inl (.inl iX)) (λq=>q.elim iW iC) (k2 _ _ gD) (.inl (.inr rfl)) (λq=>q.elim dW0 (Ne.symm CD)) iD e1 (by
     intro v s' w' σ' ds es ep hk rel' X' C' gD' dX dW rD nd sz
     obtain ⟨rel2,cX,cW,⟨m,hn⟩,E2⟩:=Rel.outcomp fc rel'
     obtain ⟨rel3,E3⟩:=rel2.bare (b:=D) (λq=>dW q.1)
     have X3:Ext w σ.heap ((w'.drop C).bare D (λq=>dW q.1)) σ'.heap:=X'.drop.bare (λq=>dW q.1) d0 rel.dom
     refine ⟨m,hn,λh' sb=>?_⟩
     obtain ⟨rel4,E4⟩:=rel3.gone (tk:=σ'.toks) (b:=C) ⟨cX,CD⟩ cW sb.extBut
     have r3:Rd c.wo.params ((w'.drop C).bare D (λq=>dW q.1)) σ'.heap (.dic ds) (.ref D):=.dic gD' ⟨⟨rfl,rfl,rfl⟩,hsys⟩ rfl ⟨λq=>q.2 rfl,sz⟩ ((rD.extR E2).extR E3) nd
     exact post (.dic v) _ _ _ (.dic ds) (.ref D) hk rel4 (X3.gone cW cc0 rel.dom sb.extBut) (.dic C') (r3.extR E4))
    rw[fcur'] at loop
    have I':ItAt c ((w1.shield D).own C) ({σ1 with heap:=h₁,toks:=σ1.toks+0}:Shared).heap it J:=hI.ext EI gI
    exact codeAny_compStart_dict loop (I'.self (σ:={σ1 with heap:=h₁,toks:=σ1.toks+0}) loop))
 rw[fcur] at G' ⊢
 rw[arm_eval_DictComp]
 exact wpAny_comprehension_free (use:=none) rfl (λv=>noSet_folded G.1) (comp_close fo hc).1 c1 c3 G'
end
theorem scL_len:∀(l:List Nat) (n:Nat),n*256^l.length≤scL l n
 |[],n=>by simp[scL]
 |c::l,n=>by
  have:=scL_len l (n*256+c)
  unfold scL
  refine Nat.le_trans ?_ this
  rw[List.length_cons,Nat.pow_succ,Nat.add_mul]
  have:n*(256^l.length*256)=n*256*256^l.length:=by rw[Nat.mul_comm (256^l.length) 256,←Nat.mul_assoc]
  omega
theorem sc_len {x:Str} {k:Nat} (h:sc x≤256^k):x.cps.size≤k:=by
 have h1:=scL_len x.cps.toList 1
 have h2:scL x.cps.toList 1≤256^k:=h
 rcases Nat.lt_or_ge k x.cps.size with q|q
 · have h3:x.cps.toList.length=x.cps.size:=Array.length_toList
   rw[h3,Nat.one_mul] at h1
   have h4:256^k<256^x.cps.size:=Nat.pow_lt_pow_right (by decide) q
   omega
 · exact q
theorem apA_conc {ρ:Rho} {ys:AV} {es:List CD} (Y:ConcL ρ ys es) {xs:AV} {ds:List CD} (X:ConcL ρ xs ds):ConcL ρ (apA ys xs) (ds++es):=ConcL.ind Y (λa U r=>.cons a r) X
theorem apB_conc {ρ:Rho} {ys:AV} {es:List UInt8} (Y:ConcB ρ ys es) {xs:AV} {ds:List UInt8} (X:ConcB ρ xs ds):ConcB ρ (apA ys xs) (ds++es):=ConcB.ind Y (λa U r=>.cons a r) X
theorem RdL.append {Pm:Params} {w:Wd} {h:Heap} {es:List CD} {us:List Value} (Y:RdL Pm w h es us) {ds:List CD} {vs:List Value} (r:RdL Pm w h ds vs):RdL Pm w h (ds++es) (vs++us):=RdL.ind Y (λa U r=>.cons a r) r
section
variable {c:Cf}
def ListAt (Pm:Params) (w:Wd) (h:Heap) (a:Addr) (ds:List CD):Prop:=∃o vs n,h.get? a=some o∧o.cls=.type "list"∧o.data=.seq vs n∧RdL Pm w h ds vs.toList∧vs.size≤10000∧o.dict=none
theorem list_view {f:Fm} {w:Wd} {s:St} {σ:Shared} {y:AV} {d:CD} {rv:Value} {k:AV->Bool} (rel:Rel c f w s σ) (C:Conc c.ρ y d) (r:Rd c.wo.params w σ.heap d rv)
  (h:(view y s λy=>AV.rec (motive:=λU=>Bool) false (λU=>false) (λU=>false) (λU=>false) (λU U=>false) (λU U=>false) false (λU=>false) false (λU U=>false) (λU U=>false) (λys U=>k ys) (λU U=>false) (λU=>false) false (λU U U U=>false) (λU U U U U U=>false) y)=true):
  ∃a ys ds,rv=.ref a∧ConcL c.ρ ys ds∧ListAt c.wo.params w σ.heap a ds∧k ys=true:=by
 cases C with
 |lst C=>
  cases r with
  |lst e cl dd nx rs z=>exact ⟨_,_,_,rfl,C,⟨_,_,_,e,cl,dd,rs,nx.2,z⟩,h⟩
 |loc p=>
  cases r with
  |loc he=>
  obtain ⟨o,ho,h⟩:=HT.get_true (show HT.get p s.hp _=true from h)
  obtain ⟨a',b',he',_,_,O⟩:=rel.obj p _ ho
  rw[he] at he'
  cases he'
  cases o with
  |list xs=>
   obtain ⟨ds,vs,n,rfl,g,C,r,z⟩:=O
   exact ⟨_,xs,ds,rfl,C,⟨_,_,_,g,rfl,rfl,r,z,rfl⟩,h⟩
  |dict ep kvs=>exact fF h
  |inst q kvs=>exact fF h
 |_=>exact fF h
theorem list_cat {f:Fm} {w:Wd} {s:St} {σ:Shared} {A:Around} {Q:Value->Shared->Prop} {E:Value->Shared->Prop} {k:K AV} {a b:Addr} {xs ys:AV} {ds es:List CD} (rel:Rel c f w s σ) (X:ConcL c.ρ xs ds) (Y:ConcL c.ρ ys es) (la:ListAt c.wo.params w σ.heap a ds) (lb:ListAt c.wo.params w σ.heap b es)
  (h:ok4 (lenA (apA ys xs)) (k (.lst (apA ys xs)) s)=true) (post:Post c f w σ.heap k Q):wpAny (model c.prog c.wo) A (binaryOp .Add (.ref a) (.ref b)) Q E σ:=by
 obtain ⟨⟨cl,dd,dat,sl⟩,vs,n,ho,rfl,rfl,r,z,_⟩:=la
 obtain ⟨⟨cl2,dd2,dat2,sl2⟩,us,n2,ho2,rfl,rfl,r2,z2,_⟩:=lb
 obtain ⟨sz,h⟩:=ok4_true h
 have C:=apA_conc Y X
 rw[lenA_conc C] at sz
 have rr:=r2.append r
 refine concat_meets ⟨_,ho,rfl⟩ ⟨_,ho2,rfl⟩ noFill_list_add seq_list_add PySem.F.slot_list_add PySem.F.entry_list_add (PySem.F.args_list_add_2 _ _) (list_addW a b vs us n n2 dd dd2 sl sl2 (by rw[sizeLine_eq];omega)) ⟨ho,ho2,?_⟩
 have kp:∀a o,σ.heap.get? a=some o->(σ.heap.push (lObj (vs++us) 0)).get? a=some o:=λa o e=>Heap.get?_push_of_some _ e
 have ln:=rr.length
 refine post _ s w _ (.lst (ds++es)) _ h (rel.grow (tk:=σ.toks) kp) (.grow kp) (.lst C) (.lst (Heap.get?_push_size _ rfl) rfl rfl ⟨rel.freshX,by rw[List.length_append] at sz ln;rw[List.length_append] at ln;rw[Array.size_append];simp only[Array.length_toList] at ln;omega⟩ (by simpa using rr.ext (.grow kp)) rfl)
theorem soundB_add:SoundB c .Add oAdd:=by
 intro f w s σ A Q E k x y dx dy u v h rel rm X Y rx ry post
 have num:∀i,dx=.int i->(∃j:Int,dy=.int j)->wpAny (model c.prog c.wo) A (binaryOp .Add u v) Q E σ:=by
  rintro i rfl ⟨j,rfl⟩
  obtain ⟨v',hk,C⟩:=addNum X Y h
  cases rx
  cases ry
  exact add_int (post.int hk rel C)
 cases X with
 |nat n=>exact num _ rfl (by cases Y<;>first|exact ⟨_,rfl⟩|exact fF h)
 |neg n=>exact num _ rfl (by cases Y<;>first|exact ⟨_,rfl⟩|exact fF h)
 |sym a n=>exact num _ rfl (by cases Y<;>first|exact ⟨_,rfl⟩|exact fF h)
 |rng lo hi i _ _=>exact num _ rfl (by cases Y<;>first|exact ⟨_,rfl⟩|exact fF h)
 |any i=>exact num _ rfl (by cases Y<;>first|exact ⟨_,rfl⟩|exact fF h)
 |str a oa=>
  cases Y with
  |str b ob=>
   rcases ite_true h with ⟨q,h⟩|⟨_,h⟩
   · rw[Bool.and_eq_true] at q
     have la:=sc_len (k:=50) (Nat.le_of_ble_eq_true q.1)
     have lb:=sc_len (k:=50) (Nat.le_of_ble_eq_true q.2)
     cases rx
     cases ry
     refine PySem.SB.add (λt' k'=>post _ s w _ _ _ h rel.toks (.refl _ _) (.sany _) (.str _ _)) ?_
     rw[sizeLine_eq]
     show a.cps.size+b.cps.size≤_
     omega
   · cases h
  |_=>exact fF h
 |byt X=>
  cases Y with
  |byt Y=>
   obtain ⟨sz,h⟩:=ok4_true h
   have C:=apB_conc Y X
   rw[lenB_conc C] at sz
   cases rx with
   |bytes b t=>
   cases ry with
   |bytes b' t'=>
   refine KBy.add_bytes (by simp at sz;omega) λt2 k2=>?_
   refine post _ s w _ (.bytes (b++b').toList) _ h rel.toks (.refl _ _) (.byt (by simpa using C)) (.bytes _ _)
  |_=>exact fF h
 |tup X=>
  obtain ⟨ys,rfl,h⟩:=isTup_true h
  cases Y with
  |tup Y=>
  obtain ⟨sz,h⟩:=ok4_true h
  have C:=apA_conc Y X
  rw[lenA_conc C] at sz
  cases rx with
  |@tup a o vs n ds ho hc hd nx r=>
  cases ry with
  |@tup b o2 us n2 es ho2 hc2 hd2 nx2 r2=>
  obtain ⟨cl,dd,dat,sl⟩:=o
  obtain ⟨cl2,dd2,dat2,sl2⟩:=o2
  dsimp only at hc hd hc2 hd2
  subst hc hd hc2 hd2
  have rr:=r2.append r
  have ln:=rr.length
  have cat:=λ{S:PySem.Spec}=>concat_meets (prog:=c.prog) (w:=c.wo) (A:=A) (E:=E) (s:=σ) (Q:=Q) (S:=S) (a:=.ref a) (b:=.ref b) ⟨_,ho,rfl⟩ ⟨_,ho2,rfl⟩ noFill_tuple_add seq_tuple_add PySem.F.slot_tuple_add PySem.F.entry_tuple_add (PySem.F.args_tuple_add_2 _ _)
  by_cases e1:vs.isEmpty=true
  · refine cat (tuple_addW0 a b vs us n n2 dd dd2 sl sl2 e1) ⟨ho,ho2,?_⟩
    have:vs=#[]:=Array.isEmpty_iff.mp e1
    subst this
    cases r
    exact post _ s w _ _ _ h rel (.refl _ _) (.tup C) (.tup ho2 rfl rfl nx2 r2)
  · by_cases e2:us.isEmpty=true
    · refine cat (tuple_addW1 a b vs us n n2 dd dd2 sl sl2 e1 e2) ⟨ho,ho2,?_⟩
      have:us=#[]:=Array.isEmpty_iff.mp e2
      subst this
      cases r2
      rw[List.append_nil] at C
      exact post _ s w _ _ _ h rel (.refl _ _) (.tup C) (.tup ho rfl rfl nx r)
    · refine cat (tuple_addW2 a b vs us n n2 dd dd2 sl sl2 e1 e2 (by have:=nx.2;have:=nx2.2;rw[sizeLine_eq];omega)) ⟨ho,ho2,?_⟩
      have kp:∀a o,σ.heap.get? a=some o->(σ.heap.push {cls:=.type "tuple",data:=.seq (vs++us)}).get? a=some o:=λa o e=>Heap.get?_push_of_some _ e
      exact post _ s w _ (.tup _) _ h (rel.grow (tk:=σ.toks) kp) (.grow kp) (.tup C) (.tup (Heap.get?_push_size _ rfl) rfl rfl ⟨rel.freshX,by rw[List.length_append] at sz ln;rw[List.length_append] at ln;rw[Array.size_append];simp only[Array.length_toList] at ln;omega⟩ (by simpa using rr.ext (.grow kp)))
 |lst X=>
  obtain ⟨b,ys,es,rfl,Yc,lb,h⟩:=list_view rel Y ry h
  cases rx with
  |lst e cl dd nx rs z=>exact list_cat rel X Yc ⟨_,_,_,e,cl,dd,rs,nx.2,z⟩ lb h post
 |loc p=>
  cases rx with
  |loc he=>
  obtain ⟨o,ho,h⟩:=HT.get_true h
  obtain ⟨xs,rfl,h⟩:=isList_true h
  obtain ⟨a',b',he',_,_,O⟩:=rel.obj p _ ho
  rw[he] at he'
  cases he'
  obtain ⟨ds,vs,n,rfl,g,C,r,z⟩:=O
  obtain ⟨b,ys,es,rfl,Yc,lb,h⟩:=list_view rel Y ry h
  exact list_cat rel C Yc ⟨_,_,_,g,rfl,rfl,r,z,rfl⟩ lb h post
 |_=>exact fF h
end
def Src (h:Heap) (a:Addr) (vs:List Value):Prop:=
 (∃T o items n,(T="list"∨T="tuple")∧h.get? a=some o∧o.cls=.type T∧o.data=.seq items n∧items.toList=vs)∨
 (∃o es ep,h.get? a=some o∧o.ExactDict∧o.data=.dict es ep∧(a==sysModules)=false∧es.toList.map (·.key)=vs)
section
variable {c:Cf} {f:Fm} {w:Wd} {s:St} {σ:Shared}
theorem items_true {x:AV} {d:CD} {rv:Value} {k:AV->Bool} (rel:Rel c f w s σ) (C:Conc c.ρ x d) (r:Rd c.wo.params w σ.heap d rv) (h:itemsL x s k=true):
  ∃a xs ds vs,rv=.ref a∧ConcL c.ρ xs ds∧RdL c.wo.params w σ.heap ds vs∧Src σ.heap a vs∧k xs=true∧vs.length≤10000:=by
 cases C with
 |tup C=>
  cases r with
  |tup ho hc hd nx rs=>exact ⟨_,_,_,_,rfl,C,rs,.inl ⟨"tuple",_,_,_,.inr rfl,ho,hc,hd,rfl⟩,h,by simpa using nx.2⟩
 |lst C=>
  cases r with
  |lst ho hc hd nx rs=>exact ⟨_,_,_,_,rfl,C,rs,.inl ⟨"list",_,_,_,.inl rfl,ho,hc,hd,rfl⟩,h,by simpa using nx.2⟩
 |dic C=>
  cases r with
  |dic ho ex hd nx re nd=>exact ⟨_,_,_,_,rfl,keysD_conc C,re.keyL,.inr ⟨_,_,_,ho,ex.1,hd,ex.2,rfl⟩,h,by simpa using nx.2⟩
 |loc p=>
  cases r with
  |loc he=>
  obtain ⟨o,ho,h⟩:=HT.get_true (show HT.get p s.hp (λo=>AObj.rec (motive:=λU=>Bool) k (λU xs=>k (keysD xs)) (λU U=>false) o)=true from h)
  obtain ⟨a',b',he',_,_,O⟩:=rel.obj p _ ho
  rw[he] at he'
  cases he'
  cases o with
  |list xs=>
   obtain ⟨ds,vs,n,rfl,g,C,r,z⟩:=O
   exact ⟨_,_,_,_,rfl,C,r,.inl ⟨"list",_,_,_,.inl rfl,g,rfl,rfl,rfl⟩,h,by simpa using z⟩
  |dict ep kvs=>
   obtain ⟨ds,es,rfl,C,D⟩:=O
   exact ⟨_,_,_,_,rfl,keysD_conc C,D.rd.keyL,.inr ⟨_,_,_,D.at_,⟨rfl,rfl,rfl⟩,rfl,D.sys,rfl⟩,h,by simpa using D.size⟩
  |inst q kvs=>exact fF h
 |_=>exact fF h
theorem dict_walks {prog:Program} {wo:World} {A:Around} (hh:A.handled=none) {I d:Addr} (ne:I≠d) {o:Obj} {es:Array DictEntry} {ep:Nat} (hd:o.data=.dict es ep):
  Walks prog wo A I [I,d] [I] es.size (λi v=>∃e,es[i]?=some e∧e.key=v) (λi h=>h.IsKeyIter I d i es.size ep∧h.get? d=some o) where
 sub:=λb hb=>by simp at hb;simp[hb]
 frame:=λi h h' st k=>⟨by obtain ⟨o,ho,r⟩:=st.1;exact ⟨o,k I (by simp) o ho,r⟩,k d (by simp) _ st.2⟩
 item:=λi s Q E hi st hQ=>by
  refine keyNext_item st.1 st.2 hd hi λh' hit sb=>?_
  exact hQ _ h' s.toks ⟨es[i],by simp[hi],rfl⟩ ⟨hit,(sb.2 d (Ne.symm ne)).trans st.2⟩ λb o hb e=>(sb.2 b (by simpa using hb)).trans e
 done:=λs Q E st hQ=>keyNext_end hh st.1 st.2 hd (Nat.le_refl _) λh' eb=>hQ h' s.toks λb o hb e=>eb b o (by simpa using hb) e
 self:=λi s Q E st hQ=>wpAny_pyIter_keyiter st.1 hQ
theorem dict_src {prog:Program} {wo:World} {d:Addr} {o:Obj} {es:Array DictEntry} {ep:Nat} (lo:(d==sysModules)=false) (ex:o.ExactDict) (hd:o.data=.dict es ep):
  KdlSrc prog wo "dict" d d es.size (λi v=>∃e,es[i]?=some e∧e.key=v) (λh=>h.get? d=some o) where
 type:=λU hm=>⟨o,hm,ex.1⟩
 there:=λU hm=>⟨Heap.lt_size hm,Heap.lt_size hm⟩
 keep:=λU U hm hk=>hk d (.inl rfl) o hm
 notList:=by decide
 notTuple:=by decide
 hint:=λU U U U hm hq=>kdl_hint_dict ⟨o,hm,ex.1⟩ hq
 iter:=λA s hh hm=>⟨_,_,(λU U hq=>keyIter lo hm ex hd hq),dict_walks hh (Nat.ne_of_gt (Heap.lt_size hm)) hd,⟨⟨_,Heap.get?_push_size _ rfl,rfl,rfl⟩,Heap.get?_push_of_some _ hm⟩⟩
theorem itemsOf_keys {es:Array DictEntry} {acc:Array Value} (h:ItemsOf (λi v=>∃e,es[i]?=some e∧e.key=v) acc es.size):acc.toList=es.toList.map (·.key):=by
 apply List.ext_getElem?
 intro i
 rw[List.getElem?_map,Array.getElem?_toList,Array.getElem?_toList]
 cases q:acc[i]? with
 |none=>
  have:es[i]?=none:=by
   have h1:=h.1
   have:acc.size≤i:=by simpa using q
   simp;omega
  rw[this];rfl
 |some v=>
  obtain ⟨e,h1,h2⟩:=h.2 i v q
  rw[h1];simp[h2]
theorem collect_src {prog:Program} {wo:World} {A:Around} {E:Value->Shared->Prop} {Q:List Value->Shared->Prop} {a:Addr} {vs:List Value} (S:Src σ.heap a vs) (hh:A.handled=none) (hz:vs.length≤10000)
  (h:∀h' tk,(∀b o,σ.heap.get? b=some o->h'.get? b=some o)->Q vs {σ with heap:=h',toks:=tk}):wpAny (model prog wo) A (collect (.ref a)) Q E σ:=by
 rcases S with ⟨T,o,items,n,hT,ho,hc,hd,rfl⟩|⟨o,es,ep,ho,ex,hd,lo,rfl⟩
 · exact wpAny_collect_seq a hT ho hc hd (λh' k=>h h' σ.toks k) (by rw[sizeLine_eq];simp at hz;omega)
 · refine kdu_collect (dict_src lo ex hd) hh ho (by rw[sizeLine_eq];simp at hz;omega) λh' tk acc k it=>?_
   rw[itemsOf_keys it]
   exact h h' tk k
theorem list_src {prog:Program} {wo:World} {A:Around} {E:Value->Shared->Prop} {Q:Value->Shared->Prop} {a:Addr} {vs:List Value} (S:Src σ.heap a vs) (hh:A.handled=none) (hz:vs.length≤10000)
  (h:∀h' tk n items,(∀b o,σ.heap.get? b=some o->h'.get? b=some o)->h'.get? σ.heap.objs.size=some (lObj items n)->items.toList=vs->Q (.ref σ.heap.objs.size) {σ with heap:=h',toks:=tk}):wpAny (model prog wo) A (PySem.call (.type "list") [.ref a]) Q E σ:=by
 rcases S with ⟨T,o,items,n,hT,ho,hc,hd,rfl⟩|⟨o,es,ep,ho,ex,hd,lo,rfl⟩
 · exact call_list_seq a hT ho hc hd (λh' c' k g=>h h' σ.toks c' items k g rfl) (by rw[sizeLine_eq];simp at hz;omega)
 · exact kdl_call (dict_src lo ex hd) hh ho (by rw[sizeLine_eq];simp at hz;omega) λh' tk acc c' k g it=>h h' tk c' acc k g (itemsOf_keys it)
end
theorem ltV_int {ρ:Rho} {bd:BL} (B:BOk ρ bd) {x y:AV} {i j:Int} {t f:Bool} (X:Conc ρ x (.int i)) (Y:Conc ρ y (.int j)) (h:ltV bd x y t f=true):Dec (i<j) t f:=by
 have h':leV bd y x f t=true:=by
  rcases X.num with ⟨n,rfl,rfl⟩|⟨n,rfl,rfl⟩|⟨a,n,rfl,rfl⟩|⟨lo,hi,rfl,x1,x2⟩|rfl<;>exact h
 have d:=leV_dec B Y X h'
 exact ⟨λp=>d.2 (by omega),λp=>d.1 (by omega)⟩
def AllInt (ds:List CD):Prop:=∀d∈ds,∃i,d=.int i
def AllTup (ds:List CD):Prop:=∀d∈ds,∃es,d=.tup es∧es≠[]∧AllInt es
theorem isIntV_true {ρ:Rho} {x:AV} {d:CD} (C:Conc ρ x d) (h:isIntV x=true):∃i,d=.int i:=asNum_isInt C h
theorem intsA_true {ρ:Rho} {xs:AV} {ds:List CD} (X:ConcL ρ xs ds) (h:intsA xs=true):AllInt ds:=by
 induction X using ConcL.ind with
 |nil=>exact λd h=>nM h
 |cons C T ih=>
  have h:and (isIntV _) (intsA _)=true:=h
  rw[Bool.and_eq_true] at h
  intro d hd
  rcases List.mem_cons.mp hd with rfl|hd
  · exact isIntV_true C h.1
  · exact ih h.2 d hd
theorem tupsA_true {ρ:Rho} {xs:AV} {ds:List CD} (X:ConcL ρ xs ds) (h:tupsA xs=true):AllTup ds:=by
 induction X using ConcL.ind with
 |nil=>exact λd h=>nM h
 |@cons x _ dx _ C T ih=>
  have h:and (isTup x λxs=>isCons xs λy ys=>and (isIntV y) (intsA ys)) (tupsA _)=true:=h
  rw[Bool.and_eq_true] at h
  intro d hd
  rcases List.mem_cons.mp hd with rfl|hd
  · obtain ⟨a,rfl,g⟩:=isTup_true h.1
    obtain ⟨y,ys,rfl,g2⟩:=isCons_true g
    rw[Bool.and_eq_true] at g2
    cases C with
    |tup C=>
    cases C with
    |cons C1 C2=>
    refine ⟨_,rfl,by simp,λe he=>?_⟩
    rcases List.mem_cons.mp he with rfl|he
    · exact isIntV_true C1 g2.1
    · exact intsA_true C2 g2.2 e he
  · exact ih h.2 d hd
section
variable {prog:Program} {wo:World} {A:Around} {w:Wd} {h₀:Heap} {ρ:Rho} {bd:BL}
theorem lex_true (B:BOk ρ bd) {Q:Bool->Shared->Prop} {fin:Bool} {s:Shared} {t f:Bool} (ht:t=true->Q true s) (hf:f=true->Q false s) {X:AV} {dx:List CD} (C:ConcL ρ X dx) {Y:AV} {dy:List CD} {us vs:List Value} {i:Nat} (h:ltV bd X Y t f=true) (D:ConcL ρ Y dy) (r:RdL wo.params w h₀ dx us) (q:RdL wo.params w h₀ dy vs)
  (ix:AllInt dx) (iy:AllInt dy) (e:fin=decide (us.length<vs.length)):KatLex prog wo A true fin Q (us.zip vs) i s:=by
 induction C using ConcL.ind generalizing Y dy us vs i with
 |nil=>
  cases r
  cases D with
  |nil=>
   cases q
   have h:f=true:=h
   refine kat_nil ?_
   rw[e];exact hf h
  |cons _ _=>
   cases q with
   |cons _ _=>
   have h:t=true:=h
   refine kat_nil ?_
   rw[e,decide_eq_true (by simp)];exact ht h
 |@cons x X dx dxs C1 C2 ih=>
  cases r with
  |cons r1 r2=>
  cases D with
  |nil=>
   cases q
   have h:f=true:=h
   refine kat_nil ?_
   rw[e,decide_eq_false (by simp)];exact hf h
  |@cons y Y dy dys D1 D2=>
   cases q with
   |cons q1 q2=>
   have h:eqV bd x y (ltV bd X Y t f) (ltV bd x y t f)=true:=h
   have dd:=(eqV_dec B x).1 y _ _ dx dy h C1 D1
   obtain ⟨a,rfl⟩:=ix dx List.mem_cons_self
   obtain ⟨b,rfl⟩:=iy dy List.mem_cons_self
   cases r1
   cases q1
   rw[List.zip_cons_cons]
   refine kat_cons (wpAny_eqBool_int ?_)
   have ee:PyData.eqv (CD.int a).py (CD.int b).py=(a==b):=rfl
   rw[ee] at dd
   by_cases p:(a==b)=true
   · rw[p]
     exact kat_yes (ih (dd.1 p) D2 r2 q2 (λd hd=>ix d (List.mem_cons_of_mem _ hd)) (λd hd=>iy d (List.mem_cons_of_mem _ hd)) (by rw[e];simp))
   · have p':(a==b)=false:=by simpa using p
     rw[p']
     have dl:=ltV_int B C1 D1 (dd.2 p)
     have fin':Q (decide (a<b)) s:=by
      by_cases l:a<b
      · rw[decide_eq_true l];exact ht (dl.1 l)
      · rw[decide_eq_false l];exact hf (dl.2 l)
     refine kat_no ?_
     cases hb:(true&&i==0) with
     |true=>exact kat_lt_int fin'
     |false=>exact kat_one _ _ (lt_int fin')
def KindOK (κ:SortKind) (ds:List CD):Prop:=(κ=oneType'∧AllInt ds)∨(κ=tuples' true∧AllTup ds)
theorem ask_true (B:BOk ρ bd) {κ:SortKind} {x y:AV} {dx dy:CD} {u v:Value} {E:Value->Shared->Prop} {C:Bool->Shared->Prop} {s:Shared} {t f:Bool} (hs:s.heap=h₀) (hk:KindOK κ [dx,dy]) (h:ltV bd x y t f=true) (X:Conc ρ x dx) (Y:Conc ρ y dy) (r:Rd wo.params w h₀ dx u) (q:Rd wo.params w h₀ dy v)
  (ht:t=true->C true s) (hf:f=true->C false s):wpAny (model prog wo) A (keyLt' κ u v) C E s:=by
 subst hs
 rcases hk with ⟨rfl,hi⟩|⟨rfl,hi⟩
 · obtain ⟨a,rfl⟩:=hi dx (by simp)
   obtain ⟨b,rfl⟩:=hi dy (by simp)
   cases r
   cases q
   have dl:=ltV_int B X Y h
   refine kat_lt_int ?_
   by_cases l:a<b
   · rw[decide_eq_true l];exact ht (dl.1 l)
   · rw[decide_eq_false l];exact hf (dl.2 l)
 · obtain ⟨es,rfl,_,hi1⟩:=hi dx (by simp)
   obtain ⟨es2,rfl,_,hi2⟩:=hi dy (by simp)
   cases X with
   |tup X=>
   cases Y with
   |tup Y=>
   cases r with
   |tup ho hc hd nx rs=>
   cases q with
   |tup ho2 hc2 hd2 nx2 rs2=>
   exact kat_lt ho hd ho2 hd2 (lex_true B ht hf X (show ltV bd _ _ t f=true from h) Y rs rs2 hi1 hi2 (by simp))
theorem KindOK.two {κ:SortKind} {ds:List CD} (h:KindOK κ ds) {a b:CD} (ha:a∈ds) (hb:b∈ds):KindOK κ [a,b]:=by
 rcases h with ⟨e,h⟩|⟨e,h⟩
 · exact .inl ⟨e,λd hd=>by simp at hd;rcases hd with rfl|rfl;exact h _ ha;exact h _ hb⟩
 · exact .inr ⟨e,λd hd=>by simp at hd;rcases hd with rfl|rfl;exact h _ ha;exact h _ hb⟩
noncomputable def ofL:List Nat->NL
 |[]=>.nil
 |n::l=>.cons n (ofL l)
noncomputable def nfT:KasT (Array Nat)->TT
 | .ret p=>.ret (ofL p.toList)
 | .ask i j k=>.ask i j (nfT (k true)) (nfT (k false))
theorem pick_true {xs:AV} {ds:List CD} {vs:List Value} (C:ConcL ρ xs ds) (r:RdL wo.params w h₀ ds vs):∀{l:List Nat} {k:AV->Bool},pickA xs (ofL l) k=true->∃ys es,k ys=true∧ConcL ρ ys es∧RdL wo.params w h₀ es (l.map λi=>vs.getD i Value.none)
 |[],k,h=>⟨.nil,[],h,.nil,.nil⟩
 |n::l,k,h=>by
  have h:nthA xs n (λx=>pickA xs (ofL l) λr=>k (.cons x r))=true:=h
  obtain ⟨x,d,e,Cx,h⟩:=nthA_true C h
  obtain ⟨rv,e2,r2⟩:=r.get e
  obtain ⟨ys,es,h1,h2,h3⟩:=pick_true C r h
  refine ⟨_,_,h1,.cons Cx h2,?_⟩
  rw[List.map_cons]
  have:vs.getD n Value.none=rv:=by simp[List.getD,e2]
  rw[this]
  exact .cons r2 h3
theorem run_true (B:BOk ρ bd) {κ:SortKind} {xs:AV} {ds:List CD} {vs:List Value} (C:ConcL ρ xs ds) (r:RdL wo.params w h₀ ds vs) (hk:KindOK κ ds) {k:AV->Bool} {s:Shared} (hs:s.heap=h₀):∀(t:KasT (Array Nat)),runT bd xs k (nfT t)=true->
  t.kasWp (kas_ask prog wo A κ vs) (λp s'=>s'=s∧∃ys es,k ys=true∧ConcL ρ ys es∧RdL wo.params w h₀ es (p.toList.map λi=>vs.getD i Value.none)) s
 | .ret p,h=>⟨rfl,pick_true C r h⟩
 | .ask i j kk,h=>by
   have h:nthA xs i (λx=>nthA xs j λy=>ltV bd x y (runT bd xs k (nfT (kk true))) (runT bd xs k (nfT (kk false))))=true:=h
   obtain ⟨x,dx,e1,Cx,h⟩:=nthA_true C h
   obtain ⟨y,dy,e2,Cy,h⟩:=nthA_true C h
   obtain ⟨u,g1,r1⟩:=r.get e1
   obtain ⟨v,g2,r2⟩:=r.get e2
   show kas_ask prog wo A κ vs i j _ s
   unfold kas_ask
   have q1:vs.getD i Value.none=u:=by simp[List.getD,g1]
   have q2:vs.getD j Value.none=v:=by simp[List.getD,g2]
   rw[q1,q2]
   exact ask_true B hs (hk.two (List.mem_of_getElem? e1) (List.mem_of_getElem? e2)) h Cx Cy r1 r2 (λg=>run_true B C r hk hs (kk true) g) (λg=>run_true B C r hk hs (kk false) g)
theorem tree2_eq:nfT (kas_sort 2)=tree2:=by rfl
theorem tree3_eq:nfT (kas_sort 3)=tree3:=by rfl
theorem treeN_true {n:Nat} {d:Bool} {f:TT->Bool} (h:treeN n d f=true):(n<2∧d=true)∨(2≤n∧n<64∧f (nfT (kas_sort n))=true):=by
 match n,h with
 |0,h=>exact .inl ⟨by omega,h⟩
 |1,h=>exact .inl ⟨by omega,h⟩
 |2,h=>exact .inr ⟨by omega,by omega,by rw[tree2_eq];exact h⟩
 |3,h=>exact .inr ⟨by omega,by omega,by rw[tree3_eq];exact h⟩
 |_+4,h=>exact fF h
theorem katTups_of {ds:List CD} (hi:AllTup ds) {ds':List CD} {vs:List Value} (r:RdL wo.params w h₀ ds' vs) (sub:∀d∈ds',d∈ds):∃fs,KatTups h₀ vs fs∧fs.length=vs.length∧∀v∈fs,∃i t,v=.int i t:=by
 induction r using RdL.ind with
 |nil=>exact ⟨[],.nil,rfl,λU h=>nM h⟩
 |@cons d ds' v vs r rs ih=>
  obtain ⟨fs,h1,h2,h3⟩:=ih (λd hd=>sub d (List.mem_cons_of_mem _ hd))
  obtain ⟨es,rfl,ne,hint⟩:=hi d (sub d List.mem_cons_self)
  cases r with
  |@tup a o vs' n _ ho hc hd nx rs'=>
  cases es with
  |nil=>exact absurd rfl ne
  |cons e es=>
  generalize hq:vs'.toList=l at rs'
  cases rs' with
  |@cons _ _ u us r' _=>
  obtain ⟨i,rfl⟩:=hint e List.mem_cons_self
  cases r' with
  |int _ tk=>
  refine ⟨.int i tk::fs,.cons ho hc hd ?_ h1,by simp[h2],λv hv=>?_⟩
  · rw[← Array.getElem?_toList,hq];rfl
  · rcases List.mem_cons.mp hv with rfl|hv
    · exact ⟨_,_,rfl⟩
    · exact h3 v hv
theorem int_vals {ds:List CD} {vs:List Value} (r:RdL wo.params w h₀ ds vs) (hi:AllInt ds) (v:Value) (hv:v∈vs):∃i t,v=.int i t:=by
 induction r using RdL.ind with
 |nil=>exact nM hv
 |cons r rs ih=>
  rcases List.mem_cons.mp hv with e|hv
  · obtain ⟨i,e'⟩:=hi _ List.mem_cons_self
    subst e'
    exact r.inv λt e'=>⟨i,t,e.trans e'⟩
  · exact ih (λd hd=>hi d (List.mem_cons_of_mem _ hd)) hv
theorem kind_true {M:Model} {ds:List CD} {vs:List Value} {s:Shared} {E:Value->Shared->Prop} {Q:SortKind->Shared->Prop} (hs:s.heap=h₀) (h2:2≤vs.length) (r:RdL wo.params w h₀ ds vs) (hi:AllInt ds∨AllTup ds) (h:∀κ,KindOK κ ds->Q κ s):wpAny M A (keyKind' vs.toArray) Q E s:=by
 subst hs
 rcases hi with hi|hi
 · refine kas_kind h2 (T:=.type "int") (λv hv=>?_) (by decide) (by decide) (h _ (.inl ⟨rfl,hi⟩))
   obtain ⟨i,t,rfl⟩:=int_vals r hi v hv
   exact Looks.of_pure rfl
 · obtain ⟨fs,t1,t2,t3⟩:=katTups_of hi r (λU h=>h)
   refine kat_kind t1 (by omega) (T:=.type "int") (λv hv=>?_) (by decide) (h _ (.inr ⟨rfl,hi⟩))
   obtain ⟨i,t,rfl⟩:=t3 v hv
   exact Looks.of_pure rfl
end
section
variable {prog:Program} {wo:World} {A:Around} {w:Wd} {ρ:Rho} {bd:BL} {s:Shared}
theorem sortA_true {xs:AV} {ds:List CD} {k:AV->Bool} (C:ConcL ρ xs ds) (h:sortA bd xs k=true):(AllInt ds∨AllTup ds)∧((ds.length<2∧k xs=true)∨(2≤ds.length∧ds.length<64∧runT bd xs k (nfT (kas_sort ds.length))=true)):=by
 have h:and (Bool.rec (tupsA xs) true (intsA xs)) (treeN (lenA xs) (k xs) (runT bd xs k))=true:=h
 rw[Bool.and_eq_true] at h
 refine ⟨?_,?_⟩
 · rcases boolRec_true h.1 with ⟨a,_⟩|⟨_,a⟩
   · exact .inl (intsA_true C a)
   · exact .inr (tupsA_true C a)
 · have:=treeN_true h.2
   rw[lenA_conc C] at this
   exact this
theorem runs_true (B:BOk ρ bd) {xs:AV} {ds:List CD} {vs:List Value} {k:AV->Bool} {E:Value->Shared->Prop} {Q:SortSt->Shared->Prop} {κ:SortKind} (C:ConcL ρ xs ds) (r:RdL wo.params w s.heap ds vs) (hk:2≤vs.length->KindOK κ ds)
  (h:(ds.length<2∧k xs=true)∨(2≤ds.length∧ds.length<64∧runT bd xs k (nfT (kas_sort ds.length))=true))
  (hQ:∀st out ys es,out.length=vs.length->(arrOf st).map (·.2)=List.toArray out->failedOf st=none->k ys=true->ConcL ρ ys es->RdL wo.params w s.heap es out->Q st s):
  wpAny (model prog wo) A ((if vs.toArray.size<2 then pure () else sortRuns').run (SortSt.mk' κ (vs.toArray.zip vs.toArray) #[] 7 none)) (λr s'=>Q r.2 s') E s:=by
 have len:=r.length
 rcases h with ⟨h2,h⟩|⟨h2,h64,h⟩
 · rw[if_pos (by rw[List.size_toArray];omega)]
   refine wpAny_pure (hQ _ vs xs ds rfl ?_ rfl h C r)
   show (vs.toArray.zip vs.toArray).map (·.2)=vs.toArray
   simp
   exact List.map_snd_zip (Nat.le_refl _)
 · rw[if_neg (by rw[List.size_toArray];omega)]
   refine kat_run (ks:=vs) (vs:=vs) (G:=λp s'=>s'=s∧∃ys es,k ys=true∧ConcL ρ ys es∧RdL wo.params w s.heap es (p.toList.map λi=>vs.getD i Value.none)) rfl (by omega) (by omega) ?_ ?_
   · intro p st' s' hp har hf h9;obtain ⟨rfl,ys,es,g1,g2,g3⟩:=h9
     exact hQ st' _ ys es (by rw[List.length_map,Array.length_toList,hp]) (kat_snds rfl har) hf g1 g2 g3
   · have:=run_true (A:=A) (prog:=prog) B C r (hk (by omega)) rfl (kas_sort ds.length) h
     rw[len]
     exact this
theorem RdL.reverse {Pm:Params} {w:Wd} {h:Heap} {ds:List CD} {vs:List Value} (r:RdL Pm w h ds vs):RdL Pm w h ds.reverse vs.reverse:=by
 induction r using RdL.ind with
 |nil=>exact .nil
 |cons a _ ih=>rw[List.reverse_cons,List.reverse_cons];exact ih.snoc a
theorem sort_own (B:BOk ρ bd) {a:Addr} {xs:AV} {ds:List CD} {vs:List Value} {n:Nat} {k:AV->Bool} {E:Value->Shared->Prop} {P:PySem.Fin->Shared->Prop} (ho:s.heap.get? a=some (seqObj "list" vs.toArray n)) (hX:w.X a) (C:ConcL ρ xs ds) (r:RdL wo.params w s.heap ds vs) (h:sortA bd xs k=true) (hz:vs.length≤10000)
  (hP:∀h' c out ys es,out.length=vs.length->(∀b o,b≠a->s.heap.get? b=some o->h'.get? b=some o)->h'.get? a=some (seqObj "list" (List.toArray out) c)->k ys=true->ConcL ρ ys es->RdL wo.params w h' es out->P (.done (.ret .none)) {s with heap:=h'}):
  wpAny (model prog wo) A (Builtin.«list.sort» ⟨[.ref a],[]⟩) P E s:=by
 obtain ⟨hi,h⟩:=sortA_true C h
 have s1:=Heap.SameBut.update s.heap a (Obj.mapSeq λU=>(#[]:Array Value))
 obtain ⟨e1,ho1⟩:∃e1,(s.heap.update a (Obj.mapSeq λU=>(#[]:Array Value))).get? a=some (seqObj "list" #[] e1):=⟨_,get?_update_seq ho λU=>#[]⟩
 rw[list_sort_plain]
 refine wpAny_bind (listItems_at ho rfl ?_)
 refine wpAny_bind (listUpdate_at ho rfl ?_ (by rw[List.size_toArray,sizeLine_eq];omega) (Nat.zero_le _))
 refine wpAny_bind (seqEpoch_at ho1 rfl ?_)
 refine wpAny_bind (wpAny_newTuple ?_ (by show vs.length≤_;rw[sizeLine_eq];omega))
 refine wpAny_bind (wpAny_newList ?_ (Nat.zero_le _))
 refine wpAny_holding ?_
 show wpAny (model prog wo) A _ P E {s with heap:=((s.heap.update a (Obj.mapSeq λU=>(#[]:Array Value))).push (seqObj "tuple" vs.toArray 0)).push (seqObj "list" #[] 0)}
 generalize hH:((s.heap.update a (Obj.mapSeq λU=>(#[]:Array Value))).push (seqObj "tuple" vs.toArray 0)).push (seqObj "list" #[] 0)=H
 have keep:∀b o,b≠a->s.heap.get? b=some o->H.get? b=some o:=λb o ne e=>by rw[← hH];exact Heap.get?_push_of_some _ (Heap.get?_push_of_some _ ((s1.2 b ne).trans e))
 have gA:H.get? a=some (seqObj "list" #[] e1):=by rw[← hH];exact Heap.get?_push_of_some _ (Heap.get?_push_of_some _ ho1)
 have ER:∀{h':Heap},(∀b o,b≠a->s.heap.get? b=some o->h'.get? b=some o)->ExtR w s.heap w h':=λk=>⟨λU U e=>e,λb o e n=>k b o (λq=>n (q▸hX)) e,λU U U q=>q⟩
 dsimp only
 have fin:∀κ,(2≤vs.length->KindOK κ ds)->wpAny (model prog wo) A ((if vs.toArray.size<2 then pure () else sortRuns').run (SortSt.mk' κ (vs.toArray.zip vs.toArray) #[] 7 none)>>= λx=>do
   let touched:=(← seqEpoch a) != e1
   Builtin.List.listUpdate (.ref a) λU=>(arrOf x.2).map (·.2)
   if let some e:=failedOf x.2 then rule "list.sort.comparison-raised";throw e
   if touched then rule "list.sort.modified";raiseError "ValueError" "list modified during sort"
   ret .none) P E {s with heap:=H}:=by
  intro κ hk
  refine wpAny_bind (wpAny_mono (runs_true (s:={s with heap:=H}) (Q:=λst s'=>s'={s with heap:=H}∧∃out ys es,out.length=vs.length∧(arrOf st).map (·.2)=List.toArray out∧failedOf st=none∧k ys=true∧ConcL ρ ys es∧RdL wo.params w H es out) B C (r.extR (ER keep)) hk h
   λst out ys es h0 h1 h2 h3 h4 h5=>⟨rfl,out,ys,es,h0,h1,h2,h3,h4,h5⟩) ?_ λU U x=>x)
  rintro ⟨⟨⟩,st⟩ s' ⟨rfl,out,ys,es,h0,h1,h2,h3,h4,h5⟩
  dsimp only
  have s2:=Heap.SameBut.update H a (Obj.mapSeq λU=>List.toArray out)
  obtain ⟨c2,hc2⟩:∃c2,(H.update a (Obj.mapSeq λU=>List.toArray out)).get? a=some (seqObj "list" (List.toArray out) c2):=⟨_,get?_update_seq gA λU=>List.toArray out⟩
  have keep2:∀b o,b≠a->s.heap.get? b=some o->(H.update a (Obj.mapSeq λU=>List.toArray out)).get? b=some o:=λb o ne e=>(s2.2 b ne).trans (keep b o ne e)
  refine wpAny_bind (seqEpoch_at gA rfl ?_)
  rw[h1]
  refine wpAny_bind (listUpdate_at gA rfl ?_ (Nat.zero_le _) (by rw[List.size_toArray,sizeLine_eq];omega))
  rw[h2]
  refine ifn (by simp) ?_
  have ER2:ExtR w H w (H.update a (Obj.mapSeq λU=>List.toArray out)):=⟨λU U e=>e,λb o e n=>(s2.2 b (λq=>n (q▸hX))).trans e,λU U U q=>q⟩
  exact wpAny_pure (hP _ c2 out ys es (by simpa using h0) keep2 hc2 h3 h4 (h5.extR ER2))
 have len:=r.length
 by_cases h2:vs.toArray.size<2
 · rw[if_pos h2]
   refine wpAny_bind (wpAny_pure ?_)
   exact fin _ λq=>absurd q (by rw[List.size_toArray] at h2;omega)
 · rw[if_neg h2]
   refine wpAny_bind (kind_true (s:={s with heap:=H}) rfl (by rw[List.size_toArray] at h2;omega) (r.extR (ER keep)) hi λκ hk=>?_)
   exact fin κ λU=>hk
theorem sort_own_rev (B:BOk ρ bd) {a:Addr} {xs:AV} {ds:List CD} {vs:List Value} {n:Nat} {k:AV->Bool} {E:Value->Shared->Prop} {P:PySem.Fin->Shared->Prop} (ho:s.heap.get? a=some (seqObj "list" vs.toArray n)) (hX:w.X a) (C:ConcL ρ xs ds) (r:RdL wo.params w s.heap ds vs.reverse) (h:sortA bd xs k=true) (hz:vs.length≤10000)
  (hP:∀h' c out ys es,out.length=vs.length->(∀b o,b≠a->s.heap.get? b=some o->h'.get? b=some o)->h'.get? a=some (seqObj "list" (List.toArray out.reverse) c)->k ys=true->ConcL ρ ys es->RdL wo.params w h' es out->P (.done (.ret .none)) {s with heap:=h'}):
  wpAny (model prog wo) A (Builtin.«list.sort» ⟨[.ref a],[(Str.ofString "reverse",.bool true)]⟩) P E s:=by
 obtain ⟨hi,h⟩:=sortA_true C h
 have s1:=Heap.SameBut.update s.heap a (Obj.mapSeq λU=>(#[]:Array Value))
 obtain ⟨e1,ho1⟩:∃e1,(s.heap.update a (Obj.mapSeq λU=>(#[]:Array Value))).get? a=some (seqObj "list" #[] e1):=⟨_,get?_update_seq ho λU=>#[]⟩
 rw[list_sort_rev]
 refine wpAny_bind (listItems_at ho rfl ?_)
 refine wpAny_bind (listUpdate_at ho rfl ?_ (by rw[List.size_toArray,sizeLine_eq];omega) (Nat.zero_le _))
 refine wpAny_bind (seqEpoch_at ho1 rfl ?_)
 refine wpAny_bind (wpAny_newTuple ?_ (by show vs.length≤_;rw[sizeLine_eq];omega))
 refine wpAny_bind (wpAny_newList ?_ (Nat.zero_le _))
 refine wpAny_holding ?_
 show wpAny (model prog wo) A _ P E {s with heap:=((s.heap.update a (Obj.mapSeq λU=>(#[]:Array Value))).push (seqObj "tuple" vs.toArray 0)).push (seqObj "list" #[] 0)}
 generalize hH:((s.heap.update a (Obj.mapSeq λU=>(#[]:Array Value))).push (seqObj "tuple" vs.toArray 0)).push (seqObj "list" #[] 0)=H
 have keep:∀b o,b≠a->s.heap.get? b=some o->H.get? b=some o:=λb o ne e=>by rw[← hH];exact Heap.get?_push_of_some _ (Heap.get?_push_of_some _ ((s1.2 b ne).trans e))
 have gA:H.get? a=some (seqObj "list" #[] e1):=by rw[← hH];exact Heap.get?_push_of_some _ (Heap.get?_push_of_some _ ho1)
 have ER:∀{h':Heap},(∀b o,b≠a->s.heap.get? b=some o->h'.get? b=some o)->ExtR w s.heap w h':=λk=>⟨λU U e=>e,λb o e n=>k b o (λq=>n (q▸hX)) e,λU U U q=>q⟩
 dsimp only
 have fin:∀κ,(2≤vs.length->KindOK κ ds)->wpAny (model prog wo) A ((if vs.reverse.toArray.size<2 then pure () else sortRuns').run (SortSt.mk' κ (vs.reverse.toArray.zip vs.reverse.toArray) #[] 7 none)>>= λx=>do
   let touched:=(← seqEpoch a) != e1
   Builtin.List.listUpdate (.ref a) λU=>((arrOf x.2).map (·.2)).reverse
   if let some e:=failedOf x.2 then rule "list.sort.comparison-raised";throw e
   if touched then rule "list.sort.modified";raiseError "ValueError" "list modified during sort"
   ret .none) P E {s with heap:=H}:=by
  intro κ hk
  refine wpAny_bind (wpAny_mono (runs_true (s:={s with heap:=H}) (Q:=λst s'=>s'={s with heap:=H}∧∃out ys es,out.length=vs.reverse.length∧(arrOf st).map (·.2)=List.toArray out∧failedOf st=none∧k ys=true∧ConcL ρ ys es∧RdL wo.params w H es out) B C (r.extR (ER keep)) (λq=>hk (by simpa using q)) h
   λst out ys es h0 h1 h2 h3 h4 h5=>⟨rfl,out,ys,es,h0,h1,h2,h3,h4,h5⟩) ?_ λU U x=>x)
  rintro ⟨⟨⟩,st⟩ s' ⟨rfl,out,ys,es,h0,h1,h2,h3,h4,h5⟩
  dsimp only
  have s2:=Heap.SameBut.update H a (Obj.mapSeq λU=>List.toArray out.reverse)
  obtain ⟨c2,hc2⟩:∃c2,(H.update a (Obj.mapSeq λU=>List.toArray out.reverse)).get? a=some (seqObj "list" (List.toArray out.reverse) c2):=⟨_,get?_update_seq gA λU=>List.toArray out.reverse⟩
  have keep2:∀b o,b≠a->s.heap.get? b=some o->(H.update a (Obj.mapSeq λU=>List.toArray out.reverse)).get? b=some o:=λb o ne e=>(s2.2 b ne).trans (keep b o ne e)
  refine wpAny_bind (seqEpoch_at gA rfl ?_)
  rw[h1]
  have hrv:(List.toArray out).reverse=List.toArray out.reverse:=by simp
  rw[hrv]
  refine wpAny_bind (listUpdate_at gA rfl ?_ (Nat.zero_le _) (by rw[List.size_toArray,List.length_reverse,sizeLine_eq];rw[List.length_reverse] at h0;omega))
  rw[h2]
  refine ifn (by simp) ?_
  have ER2:ExtR w H w (H.update a (Obj.mapSeq λU=>List.toArray out.reverse)):=⟨λU U e=>e,λb o e n=>(s2.2 b (λq=>n (q▸hX))).trans e,λU U U q=>q⟩
  exact wpAny_pure (hP _ c2 out ys es (by simpa using h0) keep2 hc2 h3 h4 (h5.extR ER2))
 have len:=r.length
 rw[List.length_reverse] at len
 have hkind:∀κ,(2≤vs.length->KindOK κ ds)->wpAny (model prog wo) A ((if vs.toArray.size<2 then pure () else sortRuns').run (SortSt.mk' κ (if true=true then (vs.toArray.zip vs.toArray).reverse else vs.toArray.zip vs.toArray) #[] 7 none)>>= λx=>do
   let touched:=(← seqEpoch a) != e1
   Builtin.List.listUpdate (.ref a) λU=>if true=true then ((arrOf x.2).map (·.2)).reverse else (arrOf x.2).map (·.2)
   if let some e:=failedOf x.2 then rule "list.sort.comparison-raised";throw e
   if touched then rule "list.sort.modified";raiseError "ValueError" "list modified during sort"
   ret .none) P E {s with heap:=H}:=by
  intro κ hk
  have e1:(if true=true then (vs.toArray.zip vs.toArray).reverse else vs.toArray.zip vs.toArray)=vs.reverse.toArray.zip vs.reverse.toArray:=by
   have:=kat_pairs (ks:=vs) (vs:=vs) true rfl
   rw[this];rfl
  have e2:vs.reverse.toArray.size=vs.toArray.size:=by simp
  have:=fin κ hk
  rw[e2] at this
  rw[e1]
  exact this
 refine ifp (by rfl) ?_
 refine wpAny_bind (wpAny_rule ?_)
 by_cases h2:vs.toArray.size<2
 · rw[if_pos h2]
   refine wpAny_bind (wpAny_pure ?_)
   have:=hkind general' λq=>absurd q (by rw[List.size_toArray] at h2;omega)
   simp only[if_true] at this
   exact this
 · rw[if_neg h2]
   have hi':AllInt ds.reverse∨AllTup ds.reverse:=hi.elim (λh=>.inl λd hd=>h d (List.mem_reverse.mp hd)) λh=>.inr λd hd=>h d (List.mem_reverse.mp hd)
   have r':=(r.extR (ER keep)).reverse
   rw[List.reverse_reverse] at r'
   refine wpAny_bind (kind_true (s:={s with heap:=H}) rfl (by rw[List.size_toArray] at h2;omega) r' hi' λκ hk=>?_)
   have hk':KindOK κ ds:=hk.elim (λh=>.inl ⟨h.1,λd hd=>h.2 d (List.mem_reverse.mpr hd)⟩) λh=>.inr ⟨h.1,λd hd=>h.2 d (List.mem_reverse.mpr hd)⟩
   have:=hkind κ λU=>hk'
   simp only[if_true] at this
   exact this
end
noncomputable def isBi:Value->Bool
 | .builtin _=>true
 | .type _=>true
 |_=>false
section
variable (c:Cf)
def SoundV1 (fv:Value) (g:AV->St->K AV->Bool):Prop:=
 ∀f w s σ A (Q:Value->Shared->Prop) E k x d rv,g x s k=true->Rel c f w s σ->Room A 0->Conc c.ρ x d->Rd c.wo.params w σ.heap d rv->Post c f w σ.heap k Q->wpAny (model c.prog c.wo) A (PySem.call fv [rv]) Q E σ
def SoundV2 (fv:Value) (g:Op):Prop:=
 ∀f w s σ A (Q:Value->Shared->Prop) E k x y dx dy u v,g x y s k=true->Rel c f w s σ->Room A 0->Conc c.ρ x dx->Conc c.ρ y dy->Rd c.wo.params w σ.heap dx u->Rd c.wo.params w σ.heap dy v->Post c f w σ.heap k Q->
  wpAny (model c.prog c.wo) A (PySem.call fv [u,v]) Q E σ
end
section
variable {c:Cf} {lvl:Nat} {x:Cx}
theorem call_bi {es:List Expr} {l:CL} {pos:Pos} {fv:Value} {first:List Value} (hf:isBi fv=true) (H:SoundSp c lvl x es l) (hp:es.all plainArg=true)
  {f:Fm} {w:Wd} {s:St} {σ:Shared} {A:Around} {Q:Value->Shared->Prop} {E:Value->Shared->Prop} {k:K AV} (fo:FrOK x f) (h:evL l s k=true) (rel:Rel c f w s σ) (rm:Room A lvl)
  (post:∀v s' w' σ' ds vs,k v s'=true->Rel c f w' s' σ'->Ext w σ.heap w' σ'.heap->ConcL c.ρ v ds->RdL c.wo.params w' σ'.heap ds vs->vs.length=es.length->wpAny (model c.prog c.wo) A (PySem.call fv (first++vs)) Q E σ'):
  wpAny (model c.prog c.wo) A (callWith pos fv first (backTo pos (starEach es f.cur)) []) Q E σ:=by
 have ev:wpAny (model c.prog c.wo) A (evalArgs fv true (backTo pos (starEach es f.cur)) []) (λa s₁=>wpAny (model c.prog c.wo) A (PySem.call fv (first++a.pos) a.kw) Q E s₁) E σ:=by
  have H':=H pos f w s σ A (λvs s₁=>wpAny (model c.prog c.wo) A (PySem.call fv (first++vs) []) Q E s₁) E k fo h rel rm post
  cases es with
  |nil=>
   unfold evalArgs
   show wpAny _ A (spliced []>>= _) _ E σ
   refine wpAny_bind (wpAny_mono H' (λvs s' h'=>wpAny_bind (wpAny_pure ?_)) λU U x=>x)
   refine wpAny_holding ?_
   exact wpAny_bind (wpAny_pure (wpAny_bind (wpAny_pure (wpAny_pure h'))))
  |cons e es=>
   rw[List.all_cons,Bool.and_eq_true] at hp
   rw[starEach_cons hp.1] at H' ⊢
   exact Calls.evalArgs_plain H'
 have hs:=star_any (env:=f.cur) (pos:=pos) hp
 cases fv with
 |builtin id=>exact Calls.callWith_builtin hs ev
 |type T=>exact PyProof.Rows.callWith_type hs ev
 |_=>cases hf
theorem sound_b1 {n:Str} {p pos:Pos} {e:Expr} {a:C} {fv:Value} {g:AV->St->K AV->Bool} (hx:x.glob n=true) (hg:GlobV c n fv) (hd:(n==("__debug__":Str))=false) (hf:isBi fv=true) (G:SoundV1 c fv g) (H:SoundE c lvl x e a) (hp:plainArg e=true):
  SoundE c lvl x (.Call (.Name n p) [e] [] pos) (b1 g a):=by
 intro f w s σ A Q E k fo h rel rm post
 have h:evL (.cons a .nil) s (λvs s=>isCons vs λv U=>g v s k)=true:=h
 rw[arm_eval_Call_Name']
 refine wpAny_bind (load_glob fo rel hx hg hd ?_)
 refine call_bi (first:=[]) hf (soundSp_cons hp H soundSp_nil) (by rw[List.all_cons,hp];rfl) fo h rel rm ?_
 intro v s1 w1 σ1 ds vs e1 rel1 X1 C1 r1 ln
 obtain ⟨v',t,rfl,e1⟩:=isCons_true e1
 cases C1 with
 |cons C1 C2=>
 cases r1 with
 |@cons _ _ _ vs r1 r2=>
 have:vs=[]:=by
  cases r2 with
  |nil=>rfl
  |cons _ _=>simp at ln
 subst this
 exact G f w1 s1 σ1 A Q E k v' _ _ e1 rel1 (rm.down (Nat.zero_le _)) C1 r1 (post.ext X1)
set_option tactic.hygienic true in
theorem sound_b2 {n:Str} {p pos:Pos} {e e':Expr} {a b:C} {fv:Value} {g:Op} (hx:x.glob n=true) (hg:GlobV c n fv) (hd:(n==("__debug__":Str))=false) (hf:isBi fv=true) (G:SoundV2 c fv g) (H:SoundE c lvl x e a) (H':SoundE c lvl x e' b) (hp:plainArg e=true) (hp':plainArg e'=true):
  SoundE c lvl x (.Call (.Name n p) [e,e'] [] pos) (bin g a b):=by
 intro f w s σ A Q E k fo h rel rm post
 have h:evL (.cons a (.cons b .nil)) s (λvs s=>isCons vs λv t=>isCons t λu U=>g v u s k)=true:=h
 rw[arm_eval_Call_Name']
 refine wpAny_bind (load_glob fo rel hx hg hd ?_)
 refine call_bi (first:=[]) hf (soundSp_cons hp H (soundSp_cons hp' H' soundSp_nil)) (by rw[List.all_cons,List.all_cons,hp,hp'];rfl) fo h rel rm ?_
 intro v s1 w1 σ1 ds vs e1 rel1 X1 C1 r1 ln
 obtain ⟨v',t,rfl,e2⟩:=isCons_true e1
 obtain ⟨u',t',rfl,e3⟩:=isCons_true e2
 cases C1 with
 |cons C1 C2=>
 cases C2 with
 |cons C2 C3=>
 cases r1 with
 |cons r1 r2=>
 cases r2 with
 |cons r2 r3=>
 rename_i vs
 have:vs=[]:=by
  cases r3 with
  |nil=>rfl
  |cons _ _=>simp at ln
 subst this
 exact G f w1 s1 σ1 A Q E k v' u' _ _ _ _ e3 rel1 (rm.down (Nat.zero_le _)) C1 C2 r1 r2 (post.ext X1)
theorem post_list {f:Fm} {w:Wd} {s:St} {σ:Shared} {k:K AV} {Q:Value->Shared->Prop} (rel:Rel c f w s σ) (post:Post c f w σ.heap k Q) {D:Addr} {H1 h2:Heap} {tk:Nat} {ys:AV} {es:List CD} {out:Array Value} {n:Nat} {o1:Obj}
  (k1:∀a o,σ.heap.get? a=some o->H1.get? a=some o) (d0:σ.heap.get? D=none) (g1:H1.get? D=some o1) (k2:Heap.ExtBut D H1 h2) (g2:h2.get? D=some (lObj out n)) (hk:k (.lst ys) s=true) (C:ConcL c.ρ ys es) (r:RdL c.wo.params (w.shield D) h2 es out.toList) (hz:out.size≤10000):
  Q (.ref D) {σ with heap:=h2,toks:=tk}:=by
 obtain ⟨rel1,X1⟩:=rel.shield (tk:=tk) d0 k1 ⟨_,g1⟩
 have dW:¬(w.shield D).W D:=λq=>by obtain ⟨o,e⟩:=rel.dom D (w.sub _ q);rw[d0] at e;cases e
 obtain ⟨rel2,E2⟩:=rel1.gone (tk:=tk) (.inr rfl) dW k2
 have r2:Rd c.wo.params ((w.shield D).bare D dW) h2 (.lst es) (.ref D):=.lst g2 rfl rfl ⟨λq=>q.2 rfl,hz⟩ (RdL.extR (w:=w.shield D) (w':=(w.shield D).bare D dW) (h:=h2) (h':=h2) ⟨λU U e=>e,λU U e U=>e,λU U U q=>q.1⟩ r) rfl
 exact post (.lst ys) s _ _ (.lst es) (.ref D) hk rel2 (X1.gone dW d0 rel.dom k2) (.lst C) r2
theorem soundV_sorted:SoundV1 c (.builtin "sorted") bSorted:=by
 intro f w s σ A Q E k x d rv h rel rm C r post
 obtain ⟨a,xs,ds,vs,rfl,Cx,rx,S,h,hz⟩:=items_true rel C r h
 refine Calls.call_function_entry kind_sorted plain_sorted entry_sorted (args_sorted1 _) ?_
 unfold Builtin.«sorted»
 refine wpAny_bind (m:=checkCount "sorted" 1 1 _) (wpAny_pure ?_)
 refine wpAny_bind (collect_src S rm.handled hz λh' tk k'=>?_)
 refine wpAny_bind (wpAny_newList ?_ (by rw[sizeLine_eq];omega))
 have d0:σ.heap.get? h'.objs.size=none:=by
  cases e:σ.heap.get? h'.objs.size with
  |none=>rfl
  |some o=>have:=k' _ _ e;rw[Heap.none_size] at this;cases this
 have k1:∀a o,σ.heap.get? a=some o->(h'.push (lObj vs.toArray 0)).get? a=some o:=λa o e=>Heap.get?_push_of_some _ (k' a o e)
 have g1:(h'.push (lObj vs.toArray 0)).get? h'.objs.size=some (lObj vs.toArray 0):=Heap.get?_push_size _ rfl
 obtain ⟨rel1,X1⟩:=rel.shield (tk:=tk) d0 k1 ⟨_,g1⟩
 show wpAny _ _ _ _ _ {σ with heap:=h'.push (lObj vs.toArray 0),toks:=tk}
 refine wpAny_bind (wpAny_holding (wpAny_call_entry slot_list_sort ⟨_,g1,rfl⟩ entry_list_sort ?_ (args_list_sort _)))
 refine sort_own (s:={σ with heap:=h'.push (lObj vs.toArray 0),toks:=tk}) (w:=w.shield h'.objs.size) rel.bd g1 (.inr rfl) Cx (rx.ext X1) h hz ?_
 intro h2 cc out ys es lo k2 g2 hk Cy ry
 refine ⟨_,rfl,wpAny_pure ⟨_,rfl,?_⟩⟩
 have ln:=ry.length
 refine post_list rel post k1 d0 g1 (λb o ne e=>k2 b o ne e) g2 hk Cy (by simpa using ry) (by rw[List.size_toArray,lo];exact hz)
end
section
variable {c:Cf} {lvl:Nat} {x:Cx}
theorem lsts_true {f:Fm} {w:Wd} {s:St} {σ:Shared} {y:AV} {d:CD} {rv:Value} {k:AV->Bool} (rel:Rel c f w s σ) (C:Conc c.ρ y d) (r:Rd c.wo.params w σ.heap d rv) (h:lsts y s k=true):
  ∃a ys ds,rv=.ref a∧ConcL c.ρ ys ds∧ListAt c.wo.params w σ.heap a ds∧k ys=true:=list_view rel C r h
theorem soundV_list:SoundV1 c (.type "list") bList:=by
 intro f w s σ A Q E k x d rv h rel rm C r post
 obtain ⟨a,xs,ds,vs,rfl,Cx,rx,S,h,hz⟩:=items_true rel C r h
 refine list_src S rm.handled hz λh' tk n items k' g e=>?_
 subst e
 have d0:=Heap.none_size σ.heap
 have ER:ExtR w σ.heap (w.shield σ.heap.objs.size) h':=⟨λU U e=>e,λa o e U=>k' a o e,λa o e q=>q.elim id λq=>by rw[q,d0] at e;cases e⟩
 exact post_list (tk:=tk) rel post (H1:=h') k' d0 g (λb o U e=>e) g h Cx (rx.extR ER) (by simpa using hz)
theorem soundV_tuple:SoundV1 c (.type "tuple") bTuple:=by
 intro f w s σ A Q E k x d rv h rel rm C r post
 obtain ⟨a,xs,ds,rfl,Cx,⟨o,vs,n,ho,hc,hd,rx,hz,_⟩,h⟩:=lsts_true rel C r h
 refine call_tuple_list ⟨o,ho,hc,n,hd⟩ (λh' k'=>?_) (by rw[sizeLine_eq];omega)
 have kp:∀a o,σ.heap.get? a=some o->(h'.push {cls:=.type "tuple",data:=.seq vs}).get? a=some o:=λa o e=>Heap.get?_push_of_some _ (k' a o e)
 have nX:¬w.X h'.objs.size:=λq=>by
  obtain ⟨o,e⟩:=rel.dom _ q
  have:=k' _ _ e
  rw[Heap.none_size] at this;cases this
 exact post _ s w _ (.tup ds) _ h (rel.grow (tk:=σ.toks) kp) (.grow kp) (.tup Cx) (.tup (Heap.get?_push_size _ rfl) rfl rfl ⟨nX,hz⟩ (rx.ext (.grow kp)))
theorem soundV_int:SoundV1 c (.type "int") bInt:=by
 intro f w s σ A Q E k x d rv h rel rm C r post
 rcases ite_true h with ⟨q,h⟩|⟨_,h⟩
 · obtain ⟨i,rfl⟩:=isIntV_true C q
   cases r
   exact call_int_int (post.now h rel C (.int _ _))
 · cases h
theorem len_ref {prog:Program} {wo:World} {A:Around} {E:Value->Shared->Prop} {σ:Shared} {Q:Value->Shared->Prop} {a:Addr} {vs:List Value} (S:Src σ.heap a vs) (hz:vs.length≤10000)
  (h:∀t tk,Q (.int vs.length t) {σ with toks:=tk}):wpAny (model prog wo) A (PySem.call (.builtin "len") [.ref a]) Q E σ:=by
 rcases S with ⟨T,o,items,n,hT,ho,hc,hd,rfl⟩|⟨o,es,ep,ho,ex,hd,lo,rfl⟩
 · have e:((items.toList.length:Nat):Int)=(items.size:Int):=by simp
   have hz':items.size≤10000:=by simpa using hz
   rw[e] at h
   rcases hT with rfl|rfl
   · exact len_list ⟨o,ho,hc,n,hd⟩ (by omega) (h _ _)
   · exact len_tuple ⟨o,ho,hc,n,hd⟩ (by omega) (h _ _)
 · have hT:σ.TypeIs (.ref a) "dict":=⟨o,ho,ex.1⟩
   have hz':es.size≤10000:=by simpa using hz
   have e:(((es.toList.map (·.key)).length:Nat):Int)=(es.size:Int):=by simp
   rw[e] at h
   refine Calls.call_function_entry kind_len plain_len entry_len (args_len1 _) ?_
   unfold Builtin.«len»
   refine wpAny_bind (m:=oneArg "len" _) (wpAny_pure ?_)
   refine wpAny_bind (m:=callSpecial? (.ref a) (Str.ofString "__len__")) (wpAny_callSpecial?_slot (name:=Str.ofString "__len__") hT PySem.F.slot_dict_len
    (wpAny_call_entry PySem.F.slot_dict_len hT PySem.F.entry_dict_len ?_ (PySem.F.args_dict_len_1 _)))
   show wpAny _ _ (dictSize a>>= _) _ _ σ
   unfold dictSize
   refine wpAny_bind (wpAny_bind (wpAny_dictEntries ho hd (wpAny_pure ?_)))
   show wpAny _ _ (Builtin.Dict.pendingCount a>>= _) _ _ σ
   refine wpAny_bind (wpAny_pendingCount_other lo ?_)
   refine wpAny_bind (wpAny_mkInt (wpAny_pure ⟨_,rfl,?_⟩))
   show wpAny _ _ _ _ _ {σ with toks:=σ.toks+1}
   refine wpAny_bind (wpAny_holding (wpAny_pure ?_))
   refine wpAny_bind (wpAny_letGo ?_)
   show wpAny _ _ (if ((es.size+0:Nat):Int)<0 then _ else _) _ _ _
   rw[if_neg (by omega)]
   show wpAny _ _ (if ((es.size+0:Nat):Int)≥2^63 then _ else _) _ _ _
   rw[if_neg (by omega)]
   exact wpAny_bind (wpAny_mkInt (wpAny_pure ⟨_,rfl,h _ _⟩))
theorem items_cases {x:AV} {s:St} {k:AV->Bool} (h:items x s k=true):(∃xs,x=.byt xs∧k xs=true)∨itemsL x s k=true:=by
 cases x with
 |byt xs=>exact .inl ⟨xs,rfl,h⟩
 |_=>exact .inr h
theorem soundV_len:SoundV1 c (.builtin "len") bLen:=by
 intro f w s σ A Q E k x d rv h rel rm C r post
 rcases items_cases h with ⟨xs,rfl,h⟩|h
 · cases C with
   |byt C=>
   cases r with
   |bytes b t=>
   obtain ⟨sz,h⟩:=ok4_true h
   have e:=lenB_conc C
   rw[e] at sz h
   simp only[Array.length_toList] at sz h
   exact KBw.len_K (ks:=KBw.bInts b) rfl (by rw[KBw.ints_length];omega) (by rw[KBw.ints_length];exact post _ s w _ _ _ h rel.toks (.refl _ _) (.nat _) (.int _ _))
 · obtain ⟨a,xs,ds,vs,rfl,Cx,rx,S,h,hz⟩:=items_true rel C r h
   obtain ⟨_,h⟩:=ok4_true h
   refine len_ref S hz λt tk=>post _ s w _ _ _ h rel.toks (.refl _ _) (.nat' ?_) (.int _ t)
   rw[rx.length,lenA_conc Cx]
theorem soundV_min:SoundV2 c (.builtin "min") bMin:=by
 intro f w s σ A Q E k x y dx dy u v h rel rm X Y rx ry post
 obtain ⟨⟨i,rfl⟩,⟨j,rfl⟩⟩:=leV_ints X Y h
 have d:=leV_dec rel.bd X Y h
 cases rx
 cases ry
 refine min_two_ints rm.handled λh' tk k'=>?_
 have rel':=rel.grow (h':=h') (tk:=tk) k'
 by_cases q:j<i
 · rw[if_pos q]
   exact post _ s w _ _ _ (d.2 (by omega)) rel' (.grow k') Y (.int _ _)
 · rw[if_neg q]
   exact post _ s w _ _ _ (d.1 (by omega)) rel' (.grow k') X (.int _ _)
theorem soundV_max:SoundV2 c (.builtin "max") bMax:=by
 intro f w s σ A Q E k x y dx dy u v h rel rm X Y rx ry post
 obtain ⟨⟨j,rfl⟩,⟨i,rfl⟩⟩:=leV_ints Y X h
 have d:=leV_dec rel.bd Y X h
 cases rx
 cases ry
 refine max_two_ints rm.handled λh' tk k'=>?_
 have rel':=rel.grow (h':=h') (tk:=tk) k'
 by_cases q:j>i
 · rw[if_pos q]
   exact post _ s w _ _ _ (d.2 (by omega)) rel' (.grow k') Y (.int _ _)
 · rw[if_neg q]
   exact post _ s w _ _ _ (d.1 (by omega)) rel' (.grow k') X (.int _ _)
end
section
variable {c:Cf} {lvl:Nat} {x:Cx}
theorem boolsA_true {ρ:Rho} {xs:AV} {ds:List CD} (X:ConcL ρ xs ds) (hh:boolsA xs=true):∃bs:List Bool,xs=bs.foldr (λb r=>.cons (.bool b) r) .nil∧ds=bs.map CD.bool:=by
 induction X using ConcL.ind with
 |nil=>exact ⟨[],rfl,rfl⟩
 |cons C T ih=>
  cases C with
  |bool b=>
   obtain ⟨bs,e1,e2⟩:=ih hh
   exact ⟨b::bs,by rw[e1];rfl,by rw[e2];rfl⟩
  |_=>exact fF hh
theorem any_fold {k:Bool->Bool}:∀(bs:List Bool) {s:St},foldA (k false) (λh U ih=>truthy h s (k true) ih) (bs.foldr (λb r=>AV.cons (.bool b) r) .nil)=true->k (bs.any id)=true
 |[],_,h=>h
 |b::bs,s,h=>by
  have h:ite b (k true) (foldA (k false) (λh U ih=>truthy h s (k true) ih) (bs.foldr (λb r=>AV.cons (.bool b) r) .nil))=true:=h
  rcases ite_true h with ⟨rfl,h⟩|⟨rfl,h⟩
  · exact h
  · exact any_fold bs h
theorem bool_vals {Pm:Params} {w:Wd} {h:Heap} {bs:List Bool} {vs:List Value} (r:RdL Pm w h (bs.map CD.bool) vs):vs=bs.map Value.bool:=by
 induction bs generalizing vs with
 |nil=>exact r.inv λU e=>e
 |cons b bs ih=>refine r.inv λv vs e r1 rs=>?_;subst e;refine r1.inv λU e=>?_;subst e;rw[ih rs];rfl
theorem soundV_any:SoundV1 c (.builtin "any") bAny:=by
 intro f w s σ A Q E k x d rv h rel rm C r post
 obtain ⟨a,xs,ds,rfl,Cx,⟨o,vs,n,ho,hc,hd,rx,hz,_⟩,h⟩:=lsts_true rel C r h
 rw[Bool.and_eq_true] at h
 obtain ⟨bs,rfl,rfl⟩:=boolsA_true Cx h.1
 have hk:=any_fold (k:=λb=>k (.bool b) s) bs h.2
 have e:=bool_vals rx
 have hl:σ.heap.IsList a vs:=⟨o,ho,hc,n,hd⟩
 have hlt:a<σ.heap.objs.size:=Heap.lt_size ho
 refine call_any_walk (wpAny_pyIter_list hl ?_)
 refine ⟨σ.heap.objs.size,_,_,_,_,_,λi=>(bs[i]?).getD false,rfl,Walks.list (A:=A.in1) rm.handled σ.heap.objs.size a (Nat.ne_of_lt hlt) vs,⟨⟨_,Heap.get?_push_size _ rfl,rfl,rfl⟩,hl.push _⟩,?_,?_⟩
 · intro i v s' Q' E' hP hQ
   have hQ:Q' ((bs[i]?).getD false) s':=hQ
   have hi:vs.toList[i]?=some v:=by simpa using hP
   rw[e,List.getElem?_map] at hi
   cases hb:bs[i]? with
   |none=>rw[hb] at hi;cases hi
   |some b=>
    rw[hb] at hi hQ
    cases hi
    exact wpAny_truthy_bool hQ
 · intro h' tk k'
   have kp:∀b o,σ.heap.get? b=some o->h'.get? b=some o:=λb o e=>k' b o (by simp;exact Nat.ne_of_lt (Heap.lt_size e)) (Heap.get?_push_of_some _ e)
   have sz:vs.size=bs.length:=by rw[← Array.length_toList,e,List.length_map]
   have ea:((List.range vs.size).any λi=>(bs[i]?).getD false)=bs.any id:=by
    rw[sz]
    apply Bool.eq_iff_iff.mpr
    rw[List.any_eq_true,List.any_eq_true]
    constructor
    · rintro ⟨i,hi,hb⟩
      cases q:bs[i]? with
      |none=>rw[q] at hb;cases hb
      |some b=>rw[q] at hb;exact ⟨b,List.mem_of_getElem? q,hb⟩
    · rintro ⟨b,hb,hb'⟩
      obtain ⟨i,hi,he⟩:=List.getElem_of_mem hb
      exact ⟨i,List.mem_range.mpr hi,by rw[List.getElem?_eq_getElem hi,he];exact hb'⟩
   rw[ea]
   exact post _ s w _ _ _ hk (rel.grow (tk:=tk) kp) (.grow kp) (.bool _) (.bool _)
theorem okB_true {ρ:Rho} {bd:BL} (B:BOk ρ bd) {xs:AV} {ds:List CD} (X:ConcL ρ xs ds) (hh:okB bd xs=true):∃ns:List Int,ds=ns.map CD.int∧(∀n∈ns,0≤n∧n<256)∧ConcB ρ xs (byteArr ns).toList:=by
 induction X using ConcL.ind with
 |nil=>exact ⟨[],rfl,λU h=>nM h,.nil⟩
 |@cons h t d ds C T ih=>
  have hh:and (and (leV bd (.nat 0) h true false) (leV bd h (.nat 255) true false)) (okB bd t)=true:=hh
  rw[Bool.and_eq_true,Bool.and_eq_true] at hh
  obtain ⟨ns,e,h1,h2⟩:=ih hh.2
  obtain ⟨_,i,rfl⟩:=leV_ints (.nat 0) C hh.1.1
  have d1:=leV_dec B (.nat 0) C hh.1.1
  have d2:=leV_dec B C (.nat 255) hh.1.2
  have lo:0≤i:=Int.not_lt.mp λq=>fF (d1.2 (Int.not_le.mpr q))
  have hi:i<256:=Int.lt_of_not_ge λq=>fF (d2.2 (by omega))
  refine ⟨i::ns,by rw[e];rfl,λn hn=>?_,?_⟩
  · rcases List.mem_cons.mp hn with rfl|hn
    · exact ⟨lo,hi⟩
    · exact h1 n hn
  · show ConcB ρ _ (i.toNat.toUInt8::(byteArr ns).toList)
    refine .cons ?_ h2
    have e2:((i.toNat.toUInt8.toNat:Nat):Int)=i:=by
     have:i.toNat.toUInt8.toNat=i.toNat%256:=by simp
     rw[this];omega
    rw[e2];exact C
theorem ints_are {Pm:Params} {w:Wd} {h:Heap} {ns:List Int} {vs:List Value} (r:RdL Pm w h (ns.map CD.int) vs):IntsAre vs ns:=by
 induction ns generalizing vs with
 |nil=>refine r.inv λU e=>?_;subst e;exact .nil
 |cons b bs ih=>refine r.inv λv vs e r1 rs=>?_;subst e;refine r1.inv λt e=>?_;subst e;exact .cons _ _ (ih rs)
theorem soundV_bytes:SoundV1 c (.type "bytes") bBytes:=by
 intro f w s σ A Q E k x d rv h rel rm C r post
 obtain ⟨a,xs,ds,rfl,Cx,⟨o,vs,n,ho,hc,hd,rx,hz,_⟩,h⟩:=lsts_true rel C r h
 rcases ite_true h with ⟨q,h⟩|⟨_,h⟩
 case inr=>cases h
 obtain ⟨ns,rfl,hr,Cb⟩:=okB_true rel.bd Cx q
 refine call_bytes_ints (vs:=vs.toList) ⟨o,ho,hc,n,by simpa using hd⟩ (ints_are rx) hr (by rw[sizeLine_eq];simp;omega) rm.handled λh' t tk k'=>?_
 exact post _ s w _ (.bytes (byteArr ns).toList) _ h (rel.grow (tk:=tk) k') (.grow k') (.byt Cb) (.bytes _ _)
theorem sound_isByt {n nb:Str} {p p2 pos:Pos} {e:Expr} {a:C} (hx:x.glob n=true) (hg:GlobV c n (.builtin "isinstance")) (hd:(n==("__debug__":Str))=false) (hx2:x.glob nb=true) (hg2:GlobV c nb (.type "bytes")) (hd2:(nb==("__debug__":Str))=false)
  (H:SoundE c lvl x e a) (hp:plainArg e=true):SoundE c lvl x (.Call (.Name n p) [e,.Name nb p2] [] pos) (isByt a):=by
 intro f w s σ A Q E k fo h rel rm post
 rw[arm_eval_Call_Name']
 refine wpAny_bind (load_glob fo rel hx hg hd ?_)
 have e1:backTo pos (starEach [e,.Name nb p2] f.cur)=[(false,eval e f.cur),(false,eval (.Name nb p2) f.cur)]∨True:=.inr trivial
 refine Calls.callWith_builtin (star_any (by rw[List.all_cons,hp];rfl)) ?_
 rw[starEach_cons hp]
 refine Calls.evalArgs_plain ?_
 show wpAny _ A (do let v ←eval e f.cur;let here ←pure [v];return here++(← holding here (spliced (backTo pos (starEach [.Name nb p2] f.cur))))) _ E σ
 refine wpAny_bind (H f w s σ A _ E _ fo h rel rm ?_)
 intro v s1 w1 σ1 d rv e1 rel1 X1 C1 r1
 refine wpAny_bind (wpAny_pure (wpAny_bind (wpAny_holding ?_)))
 show wpAny _ A (do let v ←eval (.Name nb p2) f.cur;let here ←pure [v];return here++(← holding here (spliced []))) _ E σ1
 refine wpAny_bind (load_glob fo rel1 hx2 hg2 hd2 ?_)
 refine wpAny_bind (wpAny_pure (wpAny_bind (wpAny_holding (wpAny_pure (wpAny_pure (wpAny_pure ?_))))))
 have int:∀i t,rv=.int i t->k (.bool false) s1=true->wpAny (model c.prog c.wo) A (PySem.call (.builtin "isinstance") ([]++([rv]++([.type "bytes"]++[]))) []) Q E σ1:=by
  rintro i t rfl hk
  exact IsiPair.int_bytes (post _ s1 w1 _ _ _ hk rel1.toks X1 (.bool false) (.bool false))
 cases C1 with
 |nat n=>cases r1;exact int _ _ rfl e1
 |neg n=>cases r1;exact int _ _ rfl e1
 |sym a n=>cases r1;exact int _ _ rfl e1
 |rng lo hi i _ _=>cases r1;exact int _ _ rfl e1
 |any i=>cases r1;exact int _ _ rfl e1
 |tup C1=>
  cases r1 with
  |tup ho hc hd nx rs=>exact IsiPair.tuple_bytes ho hc (post _ s1 w1 _ _ _ e1 rel1.toks X1 (.bool false) (.bool false))
 |_=>exact fF e1
theorem sound_sortedR {n kn:Str} {p pos kp kp2:Pos} {e:Expr} {a:C} {kk:Nat} (hx:x.glob n=true) (hg:GlobV c n (.builtin "sorted")) (hd:(n==("__debug__":Str))=false) (hkn:kn="reverse") (H:SoundE c lvl x e a) (hp:plainArg e=true):
  SoundE c lvl x (.Call (.Name n p) [e] [⟨some kn,.Constant (.bool true) kk kp,kp2⟩] pos) (b1 bSortedR a):=by
 intro f w s σ A Q E k fo h rel rm post
 subst hkn
 rw[arm_eval_Call_Name']
 refine wpAny_bind (load_glob fo rel hx hg hd ?_)
 have e0:backTo pos (starEach [e] f.cur)=(false,eval e f.cur)::backTo pos (starEach [] f.cur):=by rw[starEach_cons hp];rfl
 refine callWith_kw ?_ e0 (star_any (by rw[List.all_cons,hp];rfl)) rfl rfl
 rw[e0]
 show wpAny _ A (do let v ←eval e f.cur;let here ←pure [v];return here++(← holding here (spliced []))) _ E σ
 refine wpAny_bind (H f w s σ A _ E _ fo h rel rm ?_)
 intro v s1 w1 σ1 d rv e1 rel1 X1 C1 r1
 refine wpAny_bind (wpAny_pure (wpAny_bind (wpAny_holding (wpAny_pure (wpAny_pure ?_)))))
 refine kws_cons (wpAny_Constant_bool (kws_nil ?_))
 have post1:=post.ext X1
 clear post
 obtain ⟨a,xs,ds,vs,rfl,Cx,rx,S,h,hz⟩:=items_true rel1 C1 r1 e1
 show wpAny _ A (PySem.call (.builtin "sorted") [.ref a] [(Str.ofString "reverse",.bool true)]) Q E σ1
 refine call_function_entry_kw kind_sorted plain_sorted entry_sorted (args_sorted_rev _ _) ?_
 unfold Builtin.«sorted»
 refine wpAny_bind (m:=checkCount "sorted" 1 1 _) (wpAny_pure ?_)
 refine wpAny_bind (collect_src S rm.handled hz λh' tk k'=>?_)
 refine wpAny_bind (wpAny_newList ?_ (by rw[sizeLine_eq];omega))
 have d0:σ1.heap.get? h'.objs.size=none:=by
  cases e:σ1.heap.get? h'.objs.size with
  |none=>rfl
  |some o=>have:=k' _ _ e;rw[Heap.none_size] at this;cases this
 have k1:∀a o,σ1.heap.get? a=some o->(h'.push (lObj vs.toArray 0)).get? a=some o:=λa o e=>Heap.get?_push_of_some _ (k' a o e)
 have g1:(h'.push (lObj vs.toArray 0)).get? h'.objs.size=some (lObj vs.toArray 0):=Heap.get?_push_size _ rfl
 obtain ⟨rel2,X2⟩:=rel1.shield (tk:=tk) d0 k1 ⟨_,g1⟩
 show wpAny _ _ _ _ _ {σ1 with heap:=h'.push (lObj vs.toArray 0),toks:=tk}
 refine wpAny_bind (wpAny_holding (wpAny_call_entry_kw slot_list_sort ⟨_,g1,rfl⟩ entry_list_sort ?_ (args_list_sort_rev _ _)))
 refine sort_own_rev (s:={σ1 with heap:=h'.push (lObj vs.toArray 0),toks:=tk}) (w:=w1.shield h'.objs.size) rel1.bd g1 (.inr rfl) (revA_conc Cx) (rx.ext X2).reverse h hz ?_
 intro h2 cc out ys es lo k2 g2 hk Cy ry
 refine ⟨_,rfl,wpAny_pure ⟨_,rfl,?_⟩⟩
 refine post_list rel1 post1 k1 d0 g1 (λb o ne e=>k2 b o ne e) g2 hk (revA_conc Cy) (by simpa using ry.reverse) (by rw[List.size_toArray,List.length_reverse,lo];exact hz)
end
section
variable {prog:Program} {wo:World} {A:Around} {E:Value->Shared->Prop} {s:Shared}
theorem noKeys_list:typeLookup (.type "list") "keys"=pure none:=by rw[typeLookup_type,builtinLookup_eq_fast];kernel_rfl
theorem keys_list {a:Addr} {o:Obj} {xs:Array Value} {k:Nat} {Q:Option Value->Shared->Prop} (hx:s.heap.get? a=some o) (hc:o.cls=.type "list") (hdat:o.data=.seq xs k) (hd:o.dict=none) (hA:A.handled=none)
  (h:∀h' tk,(∀b o,s.heap.get? b=some o->h'.get? b=some o)->Q none {s with heap:=h',toks:=tk}):wpAny (model prog wo) A (getAttr? (.ref a) "keys") Q E s:=by
 obtain ⟨c,dct,dat,sl⟩:=o
 simp only at hc hdat hd
 subst hc hdat hd
 obtain ⟨hp,g,d,tk,os⟩:=s
 have hT:∀tk',(⟨hp,g,d,tk',os⟩:Shared).TypeIs (.ref a) "list":=λU=>⟨_,hx,rfl⟩
 have f1:=sub_AttributeError
 have f3:=PySem.F.slot_list_getattribute.lookup
 have f4:=PySem.F.slot_list_getattribute.bind (.ref a)
 have f5:=am_list_getattr_none
 unfold getAttr? getAttrBy? getAttrBy
 repeat (any_goals (first|assumption|exact hT _|((with_reducible show wpAny _ _ (PySem.call (Value.builtin "list.__getattribute__") _ _) _ _ _);refine call_meets PySem.F.slot_list_getattribute (hT _) am_entry_list_getattribute (PySem.F.args_list_getattribute_2 _ _) (meets_getattribute_miss_list a xs k sl "keys" _ noKeys_list (by decide)) ⟨hx,hA,λh' tk' e hx'=>?_⟩)|wp_step))
 obtain ⟨t',u',he⟩:=hx'.there
 show wpAny _ _ (getattributeRaised _ _ _ _ _ _ _) _ _ _
 unfold getattributeRaised
 repeat (any_goals (first|assumption|wp_step))
 exact h _ _ λb o e=>hx'.keeps b o e
end
theorem entry_dict_loop:entryFor table "dict.update.loop"=some Builtin.«dict.update.loop»:=entryFor_of_tree (by kernel_rfl)
theorem plain_dict_loop:plainId "dict.update.loop"=true:=by decide +kernel
section
variable {prog:Program} {wo:World} {ρ:Rho} {bd:BL}
theorem pairs_loop {w:Wd} {A:Around} (B:BOk ρ bd) (hh:A.handled=none) (hu:A.units+10<cLine) {D it a:Addr} {vs:Array Value} {n:Nat} {o:Obj} (dX:w.X D) (iX:w.X it) (hDi:it≠D) (ha:a≠D) (hai:a≠it) (hc:o.cls=.type "list") (hd:o.data=.seq vs n) {kk:AV->Nat->Bool}:
  ∀{xs:AV} {ds:List CD},ConcL ρ xs ds->∀{acc:AV} {m i ep:Nat} {t:Tok} {σ:Shared} {kds:List (CD×CD)} {es:Array DictEntry} {R:Result->Shared->Prop},pairsD bd xs acc m kk=true->ConcD ρ acc kds->RdL wo.params w σ.heap ds (vs.toList.drop i)->σ.heap.get? a=some o->σ.heap.IsListIter it a i->
   σ.heap.get? D=some (dObj es ep)->RdE wo.params w σ.heap kds es.toList->(kds.map (·.1)).Nodup->es.size+ds.length≤20000->
   (∀h' tk acc' m' kds' es' ep',kk acc' m'=true->ConcD ρ acc' kds'->(∀b o',b≠D->b≠it->σ.heap.get? b=some o'->h'.get? b=some o')->h'.get? D=some (dObj es' ep')->RdE wo.params w h' kds' es'.toList->(kds'.map (·.1)).Nodup->es'.size≤es.size+ds.length->R (.ok (.ret .none)) {σ with heap:=h',toks:=tk})->
   codeAny (model prog wo) A (.builtin "dict.update.loop" ⟨[.ref D,.ref it,.int i t,.none],[]⟩) R σ:=by
 intro xs ds C
 induction C using ConcL.ind with
 |nil=>
  intro acc m i ep t σ kds es R h Ca rx ha' hi hD re nd sz fin
  refine codeAny_builtin entry_dict_loop ?_
  rw[Around.under_plainId plain_dict_loop _]
  show wpAny _ A.in1 (pyNext (.ref it)>>= _) _ _ σ
  have e0:vs[i]?=none:=by
   have:(vs.toList.drop i).length=0:=by cases hq:vs.toList.drop i with|nil=>rfl|cons _ _=>rw[hq] at rx;cases rx
   simp at this ⊢;omega
  refine wpAny_bind (wpAny_pyNext_list_end hh hi ⟨o,ha',hc,n,hd⟩ e0 λh' eb=>?_)
  show wpAny _ A.in1 (Builtin.Dict.addKeywords D []>>= λU=>ret Value.none) _ _ _
  refine wpAny_bind (wpAny_pure (wpAny_pure ?_))
  have E:ExtR w σ.heap w h':=⟨λU U e=>e,λb o e q=>eb b o (λz=>q (z▸iX)) e,λU U U q=>q⟩
  exact fin h' σ.toks acc m kds es ep h Ca (λb o' U hb e=>eb b o' hb e) (eb D _ (Ne.symm hDi) hD) (re.extR E) nd (by simp)
 |@cons p xt d dt Cp Ct ih=>
  intro acc m i ep t σ kds es R h Ca rx ha' hi hD re nd sz fin
  have g1:isTup p (λp=>isCons p λq r=>isCons r λv r=>isNil r (and (keyA q 6) (putD bd q v acc λacc' m'=>pairsD bd xt acc' (Nat.add m m') kk)))=true:=h
  obtain ⟨ps,rfl,g2⟩:=isTup_true g1
  obtain ⟨q,r1,rfl,g3⟩:=isCons_true g2
  obtain ⟨v,r2,rfl,g4⟩:=isCons_true g3
  obtain ⟨rfl,g5⟩:=isNil_true g4
  rw[Bool.and_eq_true] at g5
  obtain ⟨hq,g6⟩:=g5
  cases Cp with
  |tup Cp=>
  cases Cp with
  |@cons _ _ dq _ Cq Cp=>
  cases Cp with
  |@cons _ _ dv _ Cv Cp=>
  cases Cp with
  |nil=>
  generalize hvd:vs.toList.drop i=rest at rx
  cases rx with
  |@cons _ _ pv vt rp rt=>
  cases rp with
  |@tup tt ot items tn _ hot hct hdt nxt rs=>
  have e1:vs[i]?=some (.ref tt):=by rw[← Array.getElem?_toList];have:=congrArg (λl=>l[0]?) hvd;simpa using this
  have e2:vs.toList.drop (i+1)=vt:=by have:=congrArg List.tail hvd;simpa[List.tail_drop] using this
  generalize hit:items.toList=its at rs
  cases rs with
  |@cons _ _ qv _ rq rs=>
  cases rs with
  |@cons _ _ vv _ rv rs=>
  cases rs with
  |nil=>
  have hk:=(keyA_conc q).1 6 dq hq Cq
  refine codeAny_builtin entry_dict_loop ?_
  rw[Around.under_plainId plain_dict_loop _]
  show wpAny _ A.in1 (pyNext (.ref it)>>= _) _ _ σ
  refine wpAny_bind (wpAny_pyNext_list_item hi ⟨o,ha',hc,n,hd⟩ e1 λh1 hi1 sb1=>?_)
  have E1:ExtR w σ.heap w h1:=⟨λU U e=>e,λb o e q=>(sb1.2 b λz=>q (z▸iX)).trans e,λU U U q=>q⟩
  have hot1:h1.get? tt=some ot:=E1.keep _ _ hot nxt.1
  refine wpAny_bind ?_
  refine wpAny_holding ?_
  refine wpAny_bind (wpAny_tryCatch ?_)
  unfold Builtin.Dict.pairItems
  refine wpAny_bind (wpAny_typeOf ⟨ot,hot1,hct⟩ ?_)
  rw[if_pos (by decide)]
  refine wpAny_bind (wpAny_seqItems hot1 hdt ?_)
  refine wpAny_pure ?_
  rw[hit]
  have hD1:h1.get? D=some (dObj es ep):=(sb1.2 D (Ne.symm hDi)).trans hD
  obtain ⟨acc',m',h2,Ca',hm⟩:=putD_dec B Cq Cv hk Ca re.keys g6
  show wpAny _ A.in1 (holding [qv,vv] (dictSet D qv vv)) _ _ _
  refine wpAny_holding ?_
  have lnt:(CD.tup [dq,dv]::dt).length=dt.length+1:=rfl
  refine dictSet_key (σ:={σ with heap:=h1}) (by show A.units+1+6<cLine;omega) hk (rq.extR E1) (rv.extR E1) hD1 (re.extR E1) nd dX (by rw[sizeLine_eq];omega) λh8 es8 ep8 tk8 g8 sb8 re8 hep=>?_
  have E8:ExtR w h1 w h8:=⟨λU U e=>e,λb o e q=>(sb8.2 b λz=>q (z▸dX)).trans e,λU U U q=>q⟩
  have z1:=re8.length
  have z2:=re.length
  have z3:=putK_length (k:=dq) (v:=dv) kds
  have z4:es8.toList.length=es8.size:=Array.length_toList
  have z5:es.toList.length=es.size:=Array.length_toList
  refine wpAny_pure ⟨plainId_quiet plain_dict_loop _,?_⟩
  have hi8:h8.IsListIter it a (i+1):=by obtain ⟨oo,x1,x2⟩:=hi1;exact ⟨oo,(sb8.2 it hDi).trans x1,x2⟩
  refine ih (i:=i+1) (σ:={σ with heap:=h8,toks:=tk8}) h2 Ca' (by rw[e2];exact (rt.extR E1).extR E8) ((sb8.2 a ha).trans ((sb1.2 a hai).trans ha')) hi8 g8 re8 (putK_nodup nd) (by omega) ?_
  intro h' tk acc'' m'' kds' es' ep' y1 y2 y3 y4 y5 y6 y7
  exact fin h' tk acc'' m'' kds' es' ep' y1 y2 (λb o' n1 n2 e=>y3 b o' n1 n2 ((sb8.2 b n1).trans ((sb1.2 b n2).trans e))) y4 y5 y6 (by omega)
end
section
variable {c:Cf}
theorem post_dict {f:Fm} {w:Wd} {s:St} {σ:Shared} {k:K AV} {Q:Value->Shared->Prop} (rel:Rel c f w s σ) (post:Post c f w σ.heap k Q) {D:Addr} {h2:Heap} {tk:Nat} {kvs:AV} {ds:List (CD×CD)} {es:Array DictEntry} {ep:Nat}
  (k1:∀a o,σ.heap.get? a=some o->h2.get? a=some o) (d0:σ.heap.get? D=none) (g2:h2.get? D=some (dObj es ep)) (sys:(D==sysModules)=false) (hk:k (.dic kvs) s=true) (C:ConcD c.ρ kvs ds) (r:RdE c.wo.params (w.shield D) h2 ds es.toList) (nd:(ds.map (·.1)).Nodup) (hz:es.size≤10000):
  Q (.ref D) {σ with heap:=h2,toks:=tk}:=by
 obtain ⟨rel1,X1⟩:=rel.shield (tk:=tk) d0 k1 ⟨_,g2⟩
 have dW:¬(w.shield D).W D:=λq=>by obtain ⟨o,e⟩:=rel.dom D (w.sub _ q);rw[d0] at e;cases e
 obtain ⟨rel2,E2⟩:=rel1.gone (tk:=tk) (.inr rfl) dW (λb o U e=>e)
 have r2:Rd c.wo.params ((w.shield D).bare D dW) h2 (.dic ds) (.ref D):=.dic g2 ⟨⟨rfl,rfl,rfl⟩,sys⟩ rfl ⟨λq=>q.2 rfl,hz⟩ (RdE.extR (w:=w.shield D) (w':=(w.shield D).bare D dW) (h:=h2) (h':=h2) ⟨λU U e=>e,λU U e U=>e,λU U U q=>q.1⟩ r) nd
 exact post (.dic kvs) s _ _ (.dic ds) (.ref D) hk rel2 (X1.gone dW d0 rel.dom λb o U e=>e) (.dic C) r2
theorem soundV_dict (ok:CfOK c):SoundV1 c (.type "dict") bDict:=by
 intro f w s σ A Q E k x d rv h rel rm C r post
 obtain ⟨a,xs,ds,rfl,Cx,⟨o,vs,n,ho,hc,hd,rx,hz,hdd⟩,h⟩:=lsts_true rel C r h
 have h:pairsD s.bd xs .nil 0 (λkvs U=>k (.dic kvs) s)=true:=h
 have sys:=base_ne ok rel
 refine callType_codes (Q₁:=λobj s₁=>obj=.ref σ.heap.objs.size∧s₁={σ with heap:=σ.heap.push {cls:=.type "dict",data:=.dict #[]}}) F.kt_called_dict (F.kt_typeCall_dict_1 _) F.entry_dict_init (kt_code_dict_new _ ⟨rfl,rfl⟩) ?_
 rintro obj s₁ ⟨rfl,rfl⟩
 have d0:=Heap.none_size σ.heap
 have gD:(σ.heap.push {cls:=.type "dict",data:=.dict #[]}).get? σ.heap.objs.size=some (dObj #[] 0):=Heap.get?_push_size _ rfl
 have k1:∀a o,σ.heap.get? a=some o->(σ.heap.push {cls:=.type "dict",data:=.dict #[]}).get? a=some o:=λa o e=>Heap.get?_push_of_some _ e
 have aD:a≠σ.heap.objs.size:=λq=>by rw[q,d0] at ho;cases ho
 generalize hDD:σ.heap.objs.size=D at*
 generalize hHH:σ.heap.push {cls:=.type "dict",data:=.dict #[]}=H1 at*
 refine ⟨⟨_,gD,rfl⟩,F.args_dict_init_2 _ _,?_⟩
 unfold Builtin.«dict.__init__»
 refine wpAny_bind ?_
 unfold Builtin.Dict.selfAndRest
 refine wpAny_bind (wpAny_notOrdered_dict ⟨_,gD,rfl⟩ ?_)
 show wpAny _ _ (pure (D,[Value.ref a])) _ _ _
 refine wpAny_pure ?_
 show wpAny _ _ (Builtin.Dict.updateFrom "dict.__init__" D (.ref a) [] .none) _ _ _
 unfold Builtin.Dict.updateFrom
 refine wpAny_bind (wpAny_typeOf ⟨o,k1 _ _ ho,hc⟩ ?_)
 rw[if_pos (by decide)]
 refine wpAny_bind (keys_list (xs:=vs) (k:=n) (k1 _ _ ho) hc hd hdd rm.handled λh' tk k2=>?_)
 refine ifp (by rfl) ?_
 refine wpAny_bind (wpAny_rule ?_)
 have ho':=k2 _ _ (k1 _ _ ho)
 refine wpAny_bind (wpAny_pyIter_list ⟨o,ho',hc,n,hd⟩ ?_)
 have gI:∀o,(h'.push o).get? h'.objs.size=some o∨True:=λo=>.inr trivial
 have I0:=Heap.none_size h'
 have k3:∀b ob,h'.get? b=some ob->(h'.push {cls:=.type "list_iterator",data:=.fields #[.ref a,.int 0 0]}).get? b=some ob:=λb ob e=>Heap.get?_push_of_some _ e
 have hI:(h'.push {cls:=.type "list_iterator",data:=.fields #[.ref a,.int 0 0]}).IsListIter h'.objs.size a 0:=⟨_,Heap.get?_push_size _ rfl,rfl,rfl⟩
 dsimp only
 generalize hI2:h'.objs.size=I at*
 generalize hH2:h'.push {cls:=.type "list_iterator",data:=.fields #[.ref a,.int 0 0]}=H2 at*
 have kI:∀b ob,σ.heap.get? b=some ob->H2.get? b=some ob:=λb ob e=>k3 _ _ (k2 _ _ (k1 _ _ e))
 have gD':=k3 _ _ (k2 _ _ gD)
 have ID:I≠D:=λq=>by rw[q] at I0;have:=k2 _ _ gD;rw[I0] at this;cases this
 have aI:a≠I:=λq=>by rw[q] at ho';rw[I0] at ho';cases ho'
 have i0:σ.heap.get? I=none:=by
  cases e:σ.heap.get? I with
  |none=>rfl
  |some ob=>have:=k2 _ _ (k1 _ _ e);rw[I0] at this;cases this
 refine wpAny_pure ⟨plainId_quiet plain_dict_loop _,?_⟩
 have EX:ExtR w σ.heap ((w.shield D).shield I) H2:=⟨λU U e=>e,λb ob e U=>kI b ob e,λb ob e q=>q.elim (λq=>q.elim id λz=>by rw[z,d0] at e;cases e) λz=>by rw[z,i0] at e;cases e⟩
 have hu:=rm.units
 refine pairs_loop (w:=(w.shield D).shield I) rel.bd (show A.in1.handled=none from rm.handled) (show A.units+1+10<cLine by omega) (.inl (.inr rfl)) (.inr rfl) ID aD aI hc hd Cx (i:=0) (kds:=[]) (es:=#[]) (ep:=0) h .nil (by simpa using rx.extR EX) (kI _ _ ho) hI gD' .nil .nil (by have:=rx.length;simp;simp at this;omega) ?_
 intro h3 tk3 acc' m' kds' es' ep' y1 y2 y3 y4 y5 y6 y7
 have k4:∀b ob,σ.heap.get? b=some ob->h3.get? b=some ob:=λb ob e=>y3 b ob (λz=>by rw[z,d0] at e;cases e) (λz=>by rw[z,i0] at e;cases e) (kI b ob e)
 refine ⟨rfl,?_⟩
 refine post_dict rel post k4 d0 y4 sys y1 y2 (RdE.extR (w:=(w.shield D).shield I) (w':=w.shield D) (h:=h3) (h':=h3) ⟨λU U e=>e,λU U e U=>e,λU U U q=>.inl q⟩ y5) y6 ?_
 have:=rx.length
 simp at y7 this
 omega
end
theorem slot_bytes_join:Slot "bytes" "join" "bytes.join":=
 .of (owner:="bytes") (n:="join") (by rw[typeLookup_type,builtinLookup_eq_fast];kernel_rfl) (by decide +kernel) (by decide +kernel) (by decide +kernel)
  (by first|exact .inl (by decide +kernel)|exact .inr (by decide +kernel)) (by rw[isSubtype_type];kernel_rfl)
theorem type_bytes_join:typeOf (.builtin "bytes.join")=pure (.type "method_descriptor"):=by show builtinType _=_;rw[builtinType_eq_fast];kernel_rfl
theorem entry_bytes_join:entryFor table "bytes.join"=some Builtin.«bytes.join»:=entryFor_of_tree (by kernel_rfl)
theorem args_bytes_join (a b:Value):argsOk "bytes.join" ⟨[a,b],[]⟩:=by unfold argsOk;kernel_rfl
theorem take_eq {id:String} {b:Array UInt8} {t:Tok}:Builtin.Bytes.takeBufferQuiet? id (.bytes b t) 0=pure (some (b,none)):=by
 unfold Builtin.Bytes.takeBufferQuiet? Builtin.Bytes.takeBuffer?
 rw[KBy.special_eq KBy.look_buffer,KBy.own_buffer,show ((0:Int)==Builtin.Bytes.fullReadOnly)=false from by decide +kernel,KBy.buffer_eq]
 rfl
theorem joined_list (ps:List (Array UInt8)):(Builtin.Bytes.joined #[] ps).toList=(ps.map (·.toList)).flatten:=by
 have key:∀(l:List (Array UInt8×Nat)) (out:Array UInt8),(l.foldl (λout (p,i)=>(if i>0 then out++(#[]:Array UInt8) else out)++p) out).toList=out.toList++(l.map (·.1.toList)).flatten:=by
  intro l
  induction l with
  |nil=>intro out;simp
  |cons x r ih=>
   intro out
   obtain ⟨p,i⟩:=x
   rw[List.foldl_cons,ih]
   simp
 unfold Builtin.Bytes.joined
 rw[key]
 have e:∀(l:List (Array UInt8)) (k:Nat),((l.zipIdx k).map (·.1.toList))=l.map (·.toList):=by
  intro l
  induction l with
  |nil=>intro k;rfl
  |cons x r ih=>intro k;rw[List.zipIdx_cons,List.map_cons,ih];rfl
 rw[e];rfl
section
variable {prog:Program} {wo:World} {A:Around} {E:Value->Shared->Prop} {σ:Shared} {Q:Value->Shared->Prop}
theorem letGo_all {taken:List (Value×Option Value)} {keep:List Value} {Q:Unit->Shared->Prop} (ht:∀x∈taken,x.2=none) (h:Q () σ):wpAny (model prog wo) A (Builtin.Bytes.joinLetGo taken keep) Q E σ:=by
 induction taken with
 |nil=>exact wpAny_pure h
 |cons x r ih=>
  obtain ⟨v,u⟩:=x
  obtain rfl:u=none:=ht _ List.mem_cons_self
  refine wpAny_bind (wpAny_letGo ?_)
  exact ih λx hx=>ht x (List.mem_cons_of_mem _ hx)
theorem join_call {a:Addr} {o:Obj} {vs:Array Value} {n:Nat} {tk0:Tok} (bs:List (Array UInt8)) (ho:σ.heap.get? a=some o) (hc:o.cls=.type "list") (hd:o.data=.seq vs n) (hv:vs.size=bs.length) (hb:∀(i:Nat) (v:Value),vs[i]?=some v->∃(b:Array UInt8) (t:Tok),bs[i]?=some b∧v=Value.bytes b t)
  (hsz:((bs.map (·.toList)).flatten).length≤10000) (h:∀t tk (b:Array UInt8),b.toList=(bs.map (·.toList)).flatten->Q (.bytes b t) {σ with toks:=tk}):
  wpAny (model prog wo) A (PySem.call (.builtin "bytes.join") [.bytes #[] tk0,.ref a]) Q E σ:=by
 refine wpAny_call_entry slot_bytes_join (typeIs_bytes _ _ _) entry_bytes_join ?_ (args_bytes_join _ _)
 unfold Builtin.«bytes.join» Builtin.Bytes.joinM
 generalize hs:seqItems?=SI
 wp_walk
 subst hs
 refine wpAny_seqItems ho hd ?_
 dsimp only
 rw[if_pos (by decide)]
 by_cases hx:∃x,vs=#[x]
 · obtain ⟨x,rfl⟩:=hx
   obtain ⟨b,t,hbx,rfl⟩:=hb 0 x rfl
   have e1:bs=[b]:=by
    cases bs with
    |nil=>cases hbx
    |cons b' r=>
     cases r with
     |nil=>cases hbx;rfl
     |cons _ _=>simp at hv
   refine wpAny_bind (wpAny_typeOf (typeIs_bytes _ _ _) ?_)
   rw[if_pos (by decide)]
   refine wpAny_bind (wpAny_rule (wpAny_pure ⟨_,rfl,?_⟩))
   exact h t σ.toks b (by rw[e1];simp)
 · have key:∀(body:Nat->(Array (Array UInt8)×List (Value×Option Value))->Sem (ForInStep (Array (Array UInt8)×List (Value×Option Value)))) (fin:(Array (Array UInt8)×List (Value×Option Value))->Sem PySem.Fin) (R:PySem.Fin->Shared->Prop),
     (∀i parts taken,i<vs.size->parts.toList=bs.take i->(∀x∈taken,x.2=none∧x.1.onHeap=false)->wpAny (model prog wo) A.in1 (body i (parts,taken)) (λr s'=>s'=σ∧∃parts' taken',r=.yield (parts',taken')∧parts'.toList=bs.take (i+1)∧∀x∈taken',x.2=none∧x.1.onHeap=false) E σ)->
     (∀parts taken,parts.toList=bs->(∀x∈taken,x.2=none∧x.1.onHeap=false)->wpAny (model prog wo) A.in1 (fin (parts,taken)) R E σ)->
     wpAny (model prog wo) A.in1 (forIn [:vs.size] (#[],[]) body>>= fin) R E σ:=by
    intro body fin R hbd hfin
    rw[Std.Legacy.Range.forIn_eq_forIn_range']
    refine wpAny_bind (wpAny_forIn_list _ (λrest b s=>s=σ∧∃i,rest=List.range' i (vs.size-i) 1∧i≤vs.size∧b.1.toList=bs.take i∧(∀x∈b.2,x.2=none∧x.1.onHeap=false)) _ ?_ ?_ _ _ ⟨rfl,0,?_,Nat.zero_le _,rfl,λx hx=>(nomatch hx)⟩)
    · rintro x rest ⟨parts,taken⟩ s ⟨rfl,i,er,hi,ep,et⟩
      have hlt:i<vs.size:=by
       rcases Nat.lt_or_ge i vs.size with q|q
       · exact q
       · rw[show vs.size-i=0 by omega] at er;cases er
      obtain ⟨k,ek⟩:∃k,vs.size-i=k+1:=⟨vs.size-i-1,by omega⟩
      rw[ek,List.range'_succ] at er
      obtain ⟨rfl,rfl⟩:=List.cons.inj er
      refine wpAny_mono (hbd _ parts taken hlt ep et) (λr s' hr=>?_) λU U e=>e
      obtain ⟨rfl,p',t',rfl,e1,e2⟩:=hr
      exact ⟨rfl,_,by rw[show vs.size-(x+1)=k by omega],by omega,e1,e2⟩
    · rintro ⟨parts,taken⟩ s ⟨rfl,i,er,hi,ep,et⟩
      have:vs.size-i=0:=by
       rcases Nat.eq_zero_or_pos (vs.size-i) with q|q
       · exact q
       · obtain ⟨k,ek⟩:∃k,vs.size-i=k+1:=⟨vs.size-i-1,by omega⟩
         rw[ek,List.range'_succ] at er;cases er
      exact hfin parts taken (by rw[ep,List.take_of_length_le (by omega)]) et
    · simp[Std.Legacy.Range.size]
   have tail:∀(parts:Array (Array UInt8)) (taken:List (Value×Option Value)),parts.toList=bs->(∀x∈taken,x.2=none∧x.1.onHeap=false)->wpAny (model prog wo) A.in1 (do
     let sep ←Builtin.Bytes.payload (Value.bytes #[] tk0)
     if Builtin.Bytes.tooLong (Array.foldl (λx1 x2=>x1+x2.size) (sep.size*(parts.size-1)) parts)=true then do
      let _ ←(unsupported (toString (toString Builtin.Bytes.Kind.bytes.name++toString ".join")++toString ":memory"):Sem Unit)
      let result ←Builtin.Bytes.Kind.bytes.new (Builtin.Bytes.joined sep parts.toList)
      holding (result::List.flatMap (λx=>x.1::x.2.toList) taken) point
      Builtin.Bytes.joinLetGo taken [result]
      ret result
     else do
      let result ←Builtin.Bytes.Kind.bytes.new (Builtin.Bytes.joined sep parts.toList)
      holding (result::List.flatMap (λx=>x.1::x.2.toList) taken) point
      Builtin.Bytes.joinLetGo taken [result]
      ret result) (λfin s'=>∃v,fin=Fin.done (Flow.ret v)∧Q v s') E σ:=by
    intro parts taken ep et
    refine wpAny_bind (wpAny_bind (wpAny_pure (wpAny_pure ?_)))
    have lz:∀(l:List (Array UInt8)) (a:Nat),l.foldl (λx1 x2=>x1+x2.size) a=a+((l.map (·.toList)).flatten).length:=by
     intro l
     induction l with
     |nil=>intro a;simp
     |cons x r ih=>intro a;rw[List.foldl_cons,ih];simp;omega
    have el:((#[]:Array UInt8).size*(parts.size-1))=0:=by simp
    rw[el,←Array.foldl_toList,ep,lz,KBy.tooLong_not (by omega),if_neg Bool.false_ne_true]
    refine wpAny_bind ?_
    show wpAny _ _ (mkBytes (Builtin.Bytes.joined #[] bs)) _ _ _
    refine wpAny_mkBytes ?_ (by rw[sizeLine_eq,←Array.length_toList,joined_list];omega)
    refine wpAny_bind (wpAny_holding (wpAny_point ?_))
    refine wpAny_bind (letGo_all (λx hx=>(et x hx).1) ?_)
    exact wpAny_pure ⟨_,rfl,h _ _ _ (joined_list bs)⟩
   obtain ⟨l⟩:=vs
   match l,hx with
   |[],_=>
    refine key _ _ _ ?_ ?_
    · intro i parts taken hi ep et
      generalize Array.mk ([]:List Value)=vs at*
      obtain ⟨b,t,hbi,hvi⟩:=hb i _ (Array.getElem?_eq_getElem hi)
      have e1:vs.getD i .none=.bytes b t:=by rw[Array.getD_eq_getD_getElem?,Array.getElem?_eq_getElem hi,hvi];rfl
      refine wpAny_bind (wpAny_seqItems ho hd ?_)
      dsimp only
      rw[e1,if_neg (by
       have:(taken.any λx=>x.1.onHeap)=false:=by rw[List.any_eq_false];intro x hx;rw[(et x hx).2];exact Bool.false_ne_true
       rw[this];decide)]
      refine wpAny_bind (wpAny_holding (wpAny_of_eq take_eq ?_))
      dsimp only
      refine wpAny_bind (wpAny_seqItems ho hd ?_)
      dsimp only
      rw[if_neg (by simp)]
      refine wpAny_pure ⟨rfl,_,_,rfl,?_,?_⟩
      · rw[Array.toList_push,ep,List.take_add_one,hbi];rfl
      · intro x hx
        rcases List.mem_append.mp hx with hx|hx
        · exact et x hx
        · rw[List.mem_singleton.mp hx];exact ⟨rfl,rfl⟩
    · intro parts taken ep et
      exact tail parts taken ep et
   |[x],hx=>exact (hx ⟨x,rfl⟩).elim
   |x::y::l,_=>
    refine key _ _ _ ?_ ?_
    · intro i parts taken hi ep et
      generalize Array.mk (x::y::l)=vs at*
      obtain ⟨b,t,hbi,hvi⟩:=hb i _ (Array.getElem?_eq_getElem hi)
      have e1:vs.getD i .none=.bytes b t:=by rw[Array.getD_eq_getD_getElem?,Array.getElem?_eq_getElem hi,hvi];rfl
      refine wpAny_bind (wpAny_seqItems ho hd ?_)
      dsimp only
      rw[e1,if_neg (by
       have:(taken.any λx=>x.1.onHeap)=false:=by rw[List.any_eq_false];intro x hx;rw[(et x hx).2];exact Bool.false_ne_true
       rw[this];decide)]
      refine wpAny_bind (wpAny_holding (wpAny_of_eq take_eq ?_))
      dsimp only
      refine wpAny_bind (wpAny_seqItems ho hd ?_)
      dsimp only
      rw[if_neg (by simp)]
      refine wpAny_pure ⟨rfl,_,_,rfl,?_,?_⟩
      · rw[Array.toList_push,ep,List.take_add_one,hbi];rfl
      · intro x hx
        rcases List.mem_append.mp hx with hx|hx
        · exact et x hx
        · rw[List.mem_singleton.mp hx];exact ⟨rfl,rfl⟩
    · intro parts taken ep et
      exact tail parts taken ep et
end
section
variable {ρ:Rho}
theorem joinB_true {xs:AV} {ds:List CD} {k:AV->Bool} (X:ConcL ρ xs ds) (h:joinB xs k=true):∃(bs:List (List UInt8)) (ys:AV),ds=bs.map CD.bytes∧ConcB ρ ys bs.flatten∧k ys=true:=by
 induction X using ConcL.ind generalizing k with
 |nil=>exact ⟨[],.nil,rfl,.nil,h⟩
 |@cons x t d ds C T ih=>
  cases C with
  |@byt xs b Cb=>
   have h:joinB t (λys=>k (apA ys xs))=true:=h
   obtain ⟨bs,ys,rfl,C2,h⟩:=ih h
   exact ⟨_::bs,apA ys xs,rfl,apB_conc C2 Cb,h⟩
  |_=>exact fF h
end
section
variable (c:Cf)
def SoundM (id:String) (g:AV->AV->St->K AV->Bool):Prop:=
 ∀f w s σ A (Q:Value->Shared->Prop) E k ov vs dov ds rv rvs,g ov vs s k=true->Rel c f w s σ->Room A 0->Conc c.ρ ov dov->ConcL c.ρ vs ds->Rd c.wo.params w σ.heap dov rv->RdL c.wo.params w σ.heap ds rvs->Post c f w σ.heap k Q->
  wpAny (model c.prog c.wo) A (PySem.call (.builtin id) (rv::rvs)) Q E σ
def PreM (T:String) (pre:AV->St->Bool->Bool):Prop:=
 ∀f w s σ ov dov rv b,pre ov s b=true->Rel c f w s σ->Conc c.ρ ov dov->Rd c.wo.params w σ.heap dov rv->b=true∧σ.TypeIs rv T∧∀a,rv=.ref a->∃o,σ.heap.get? a=some o∧o.dict=none
end
section
variable {c:Cf} {lvl:Nat} {x:Cx}
theorem sound_bm {o:Expr} {n:Str} {apos pos:Pos} {es:List Expr} {a:C} {l:CL} {T id:String} {pre:AV->St->Bool->Bool} {g:AV->AV->St->K AV->Bool} (slot:Slot T n id) (ty:typeOf (.builtin id)=pure (.type "method_descriptor")) (pa:PlainAttrs T)
  (P:PreM c T pre) (G:SoundM c id g) (H:SoundE c lvl x o a) (hb:noBareCall o=true) (hl:(apos.endLine==pos.line)=true) (L:SoundSp c lvl x es l) (hp:es.all plainArg=true) (hn:es.length<30):
  SoundE c lvl x (.Call (.Attribute o n apos) es [] pos) (λs k=>a s λov s=>pre ov s (evL l s λvs s=>g ov vs s k)):=by
 intro f w s σ A Q E k fo h rel rm post
 refine meth_open hb hl hp hn (H f w s σ A _ E _ fo h rel rm ?_)
 intro v s1 w1 σ1 d rv e1 rel1 X1 C1 r1
 obtain ⟨e2,hT,hdn⟩:=P f w1 s1 σ1 v d rv _ e1 rel1 C1 r1
 refine getMethod_builtin hT pa slot ty hdn ?_
 refine call_bi (first:=[rv]) rfl L hp fo e2 rel1 rm ?_
 intro v2 s2 w2 σ2 ds vs e3 rel2 X2 C2 r2 ln
 exact G f w2 s2 σ2 A Q E k v v2 d ds rv vs e3 rel2 (rm.down (Nat.zero_le _)) C1 C2 (r1.ext X2) r2 (post.ext (X1.trans X2))
def preB (ov:AV) (s:St) (b:Bool):Bool:=AV.rec (motive:=λU=>Bool) false (λU=>false) (λU=>false) (λU=>false) (λU U=>false) (λU U=>false) false (λU=>false) false (λxs U=>isNil xs b) (λU U=>false) (λU U=>false) (λU U=>false) (λU=>false) false (λU U U U=>false) (λU U U U U U=>false) ov
theorem preB_true {ov:AV} {s:St} {b:Bool} (h:preB ov s b=true):ov=.byt .nil∧b=true:=by
 cases ov with
 |byt xs=>obtain ⟨rfl,h⟩:=isNil_true (show isNil xs b=true from h);exact ⟨rfl,h⟩
 |_=>exact fF h
theorem preM_bytes:PreM c "bytes" preB:=by
 intro f w s σ ov dov rv b h rel C r
 obtain ⟨rfl,h⟩:=preB_true h
 cases C with
 |byt C=>
  cases r
  exact ⟨h,typeIs_bytes _ _ _,λa e=>(nomatch e)⟩
theorem vs_one {Pm:Params} {w:Wd} {h:Heap} {ρ:Rho} {v:AV} {ds:List CD} {rvs:List Value} {k:AV->Bool} (hh:isCons v (λq r=>isNil r (k q))=true) (C:ConcL ρ v ds) (r:RdL Pm w h ds rvs):
  ∃q d rv,k q=true∧Conc ρ q d∧Rd Pm w h d rv∧rvs=[rv]:=by
 obtain ⟨q,t,rfl,hh⟩:=isCons_true hh
 obtain ⟨rfl,hh⟩:=isNil_true hh
 cases C with
 |cons C1 C2=>
 cases C2 with
 |nil=>
 cases r with
 |cons r1 r2=>
 cases r2 with
 |nil=>exact ⟨_,_,_,hh,C1,r1,rfl⟩
theorem vs_two {Pm:Params} {w:Wd} {h:Heap} {ρ:Rho} {v:AV} {ds:List CD} {rvs:List Value} {k:AV->AV->Bool} (hh:isCons v (λq r=>isCons r λq' r=>isNil r (k q q'))=true) (C:ConcL ρ v ds) (r:RdL Pm w h ds rvs):
  ∃q q' d d' rv rv',k q q'=true∧Conc ρ q d∧Conc ρ q' d'∧Rd Pm w h d rv∧Rd Pm w h d' rv'∧rvs=[rv,rv']:=by
 obtain ⟨q,t,rfl,hh⟩:=isCons_true hh
 cases C with
 |cons C1 C2=>
 cases r with
 |cons r1 r2=>
 obtain ⟨q',d',rv',hk,C',r',rfl⟩:=vs_one hh C2 r2
 exact ⟨_,_,_,_,_,_,hk,C1,C',r1,r',rfl⟩
theorem bytes_are {Pm:Params} {w:Wd} {h:Heap} {bs:List (List UInt8)} {vs:List Value} (r:RdL Pm w h (bs.map CD.bytes) vs):∃cs:List (Array UInt8),cs.map (·.toList)=bs∧vs.length=cs.length∧∀(i:Nat) (v:Value),vs[i]?=some v->∃(b:Array UInt8) (t:Tok),cs[i]?=some b∧v=Value.bytes b t:=by
 induction bs generalizing vs with
 |nil=>refine r.inv λU e=>?_;subst e;exact ⟨[],rfl,rfl,λi v e=>by simp at e⟩
 |cons b bs ih=>
  refine r.inv λv vs e r1 rs=>?_
  subst e
  obtain ⟨cs,e1,e2,e3⟩:=ih rs
  refine r1.inv λar t e hb=>?_
  subst e
  refine ⟨ar::cs,by rw[List.map_cons,e1,hb],congrArg (·+1) e2,λi v e=>?_⟩
  cases i with
  |zero=>cases e;exact ⟨ar,t,rfl,rfl⟩
  |succ i=>exact e3 i v e
theorem soundM_join:SoundM c "bytes.join" (λov vs s k=>isCons vs λq r=>isNil r (preB ov s (bJoin q s k))):=by
 intro f w s σ A Q E k ov vs dov ds rv rvs h rel rm Co Cv ro rv' post
 obtain ⟨q,d,rq,h,Cq,rq',rfl⟩:=vs_one h Cv rv'
 obtain ⟨rfl,h⟩:=preB_true h
 cases Co with
 |byt Co=>
 cases Co with
 |nil=>
 generalize hb:CD.bytes []=dd at ro
 cases ro with
 |bytes ar t=>
  obtain rfl:ar=#[]:=by
   have:ar.toList=[]:=by injection hb with hb;exact hb.symm
   exact Array.toList_eq_nil_iff.mp this
  obtain ⟨a,xs,ds,rfl,Cx,⟨o,vs,n,ho,hc,hd,rx,hz,_⟩,h⟩:=lsts_true rel Cq rq' h
  obtain ⟨bs,ys,rfl,Cb,h⟩:=joinB_true Cx h
  obtain ⟨sz,h⟩:=ok4_true h
  rw[lenB_conc Cb] at sz
  obtain ⟨cs,rfl,e2,e3⟩:=bytes_are rx
  refine join_call cs ho hc hd (by simpa using e2) (λi v e=>e3 i v (by simpa using e)) sz λt tk b hb=>?_
  have Cb':Conc c.ρ (.byt ys) (.bytes b.toList):=by rw[hb];exact .byt Cb
  exact post _ s w _ _ _ h rel.toks (.refl _ _) Cb' (.bytes b t)
 |_=>cases hb
theorem sound_join {m:Nat} {cp apos pos:Pos} {e:Expr} {a:C} (hl:(apos.endLine==pos.line)=true) (H:SoundE c lvl x e a) (hp:plainArg e=true):
  SoundE c lvl x (.Call (.Attribute (.Constant (.bytes []) m cp) "join" apos) [e] [] pos) (b1 bJoin a):=
 sound_bm slot_bytes_join type_bytes_join FB.plainAttrs_bytes preM_bytes soundM_join (sound_cst (v:=.byt .nil) rfl) rfl hl (soundSp_cons hp H soundSp_nil) (by rw[List.all_cons,hp];rfl) (by show 1<30;omega)
end
def preD (ov:AV) (s:St) (b:Bool):Bool:=dicts ov s λU=>b
def preL (ov:AV) (s:St) (b:Bool):Bool:=lsts ov s λU=>b
section
variable {c:Cf} {lvl:Nat} {x:Cx}
theorem preM_dict:PreM c "dict" preD:=by
 intro f w s σ ov dov rv b h rel C r
 obtain ⟨a,kvs,ds,rfl,h,C,D⟩:=dicts_true rel C r h
 refine ⟨h,D.typeIs,λa' e=>?_⟩
 cases e
 obtain ⟨o,es,ep,ho,ex,_⟩:=D
 exact ⟨o,ho,ex.2.1⟩
theorem preM_list:PreM c "list" preL:=by
 intro f w s σ ov dov rv b h rel C r
 obtain ⟨a,xs,ds,rfl,Cx,⟨o,vs,n,ho,hc,hd,rx,hz,hdn⟩,h⟩:=lsts_true rel C r h
 exact ⟨h,⟨o,ho,hc⟩,λa' e=>by cases e;exact ⟨o,ho,hdn⟩⟩
theorem DictAt.ne {Pm:Params} {w:Wd} {h:Heap} {d:Addr} {kvs:List (CD×CD)} (D:DictAt Pm w h d kvs):(d==sysModules)=false:=by obtain ⟨_,_,_,_,_,_,_,_,hs,_⟩:=D;exact hs
theorem place_dict {f:Fm} {w:Wd} {s:St} {σ:Shared} {p:P} {dov:CD} {rv:Value} {k:Nat->AV->Bool} (rel:Rel c f w s σ) (C:Conc c.ρ (.loc p) dov) (r:Rd c.wo.params w σ.heap dov rv) (h:HT.get p s.hp (λob=>isDict ob k)=true):
  ∃a ep kvs ds es,rv=.ref a∧HT.find p s.hp=some (.dict ep kvs)∧w.eta p=some (a,a)∧ConcD c.ρ kvs ds∧DictW c.wo.params w σ.heap a es ep ds∧k ep kvs=true:=by
 cases C with
 |loc p=>
 cases r with
 |loc he=>
 obtain ⟨o,ho,h⟩:=HT.get_true h
 obtain ⟨ep,kvs,rfl,h⟩:=isDict_true h
 obtain ⟨a',b',he',_,_,O⟩:=rel.obj p _ ho
 rw[he] at he'
 cases he'
 obtain ⟨ds,es,rfl,C,D⟩:=O
 exact ⟨_,ep,kvs,ds,es,rfl,ho,he,C,D,h⟩
theorem place_list {f:Fm} {w:Wd} {s:St} {σ:Shared} {p:P} {dov:CD} {rv:Value} {k:AV->Bool} (rel:Rel c f w s σ) (C:Conc c.ρ (.loc p) dov) (r:Rd c.wo.params w σ.heap dov rv) (h:HT.get p s.hp (λob=>isList ob k)=true):
  ∃a xs ds vs n,rv=.ref a∧HT.find p s.hp=some (.list xs)∧w.eta p=some (a,a)∧w.W a∧σ.heap.get? a=some (lObj vs n)∧ConcL c.ρ xs ds∧RdL c.wo.params w σ.heap ds vs.toList∧vs.size≤10000∧k xs=true:=by
 cases C with
 |loc p=>
 cases r with
 |loc he=>
 obtain ⟨o,ho,h⟩:=HT.get_true h
 obtain ⟨xs,rfl,h⟩:=isList_true h
 obtain ⟨a',b',he',hW,_,O⟩:=rel.obj p _ ho
 rw[he] at he'
 cases he'
 obtain ⟨ds,vs,n,rfl,g,C,r,z⟩:=O
 exact ⟨_,xs,ds,vs,n,rfl,ho,he,hW,g,C,r,z,h⟩
theorem soundM_get1:SoundM c "dict.get" (λov vs s k=>isCons vs λq r=>isNil r (dicts ov s λkvs=>and (keyA q 6) (findD s.bd q kvs (λv=>k v s) (k .none s)))):=by
 intro f w s σ A Q E k ov vs dov ds rv rvs h rel rm Co Cv ro rv' post
 obtain ⟨q,d,rq,h,Cq,rq',rfl⟩:=vs_one h Cv rv'
 obtain ⟨a,kvs,ds,rfl,h,C,D⟩:=dicts_true rel Co ro h
 rw[Bool.and_eq_true] at h
 have hk:=(keyA_conc q).1 6 d h.1 Cq
 have dd:=findD_dec rel.bd Cq hk C D.keys h.2
 have hu:=rm.units
 refine wpAny_call_entry F.slot_dict_get D.typeIs F.entry_dict_get ?_ (F.args_dict_get_2 _ _)
 show wpAny _ _ (dictGet a rq>>= _) _ _ σ
 refine wpAny_bind (D.find (A:=A.in1) (by show A.units+1+6<cLine;omega) hk rq' (λe tk=>?_) λu rv e r tk=>?_)
 · show wpAny _ _ (Builtin.Dict.missed a rq>>= _) _ _ _
   exact wpAny_bind (wpAny_missed_other D.ne (wpAny_pure ⟨.none,rfl,post .none s w _ .none .none (dd.2 e) rel.toks (.refl _ _) .none .none⟩))
 · obtain ⟨v,Cv,hk⟩:=dd.1 u e
   exact wpAny_pure ⟨rv,rfl,post v s w _ u rv hk rel.toks (.refl _ _) Cv r⟩
theorem soundM_get2:SoundM c "dict.get" (λov vs s k=>isCons vs λq r=>isCons r λd r=>isNil r (dicts ov s λkvs=>and (keyA q 6) (findD s.bd q kvs (λv=>k v s) (k d s)))):=by
 intro f w s σ A Q E k ov vs dov ds rv rvs h rel rm Co Cv ro rv' post
 obtain ⟨q,q',d,d',rq,rd,h,Cq,Cd,rq',rd',rfl⟩:=vs_two h Cv rv'
 obtain ⟨a,kvs,ds,rfl,h,C,D⟩:=dicts_true rel Co ro h
 rw[Bool.and_eq_true] at h
 have hk:=(keyA_conc q).1 6 d h.1 Cq
 have dd:=findD_dec rel.bd Cq hk C D.keys h.2
 have hu:=rm.units
 refine wpAny_call_entry F.slot_dict_get D.typeIs F.entry_dict_get ?_ (F.args_dict_get_3 _ _ _)
 show wpAny _ _ (dictGet a rq>>= _) _ _ σ
 refine wpAny_bind (D.find (A:=A.in1) (by show A.units+1+6<cLine;omega) hk rq' (λe tk=>?_) λu rv e r tk=>?_)
 · show wpAny _ _ (Builtin.Dict.missed a rq>>= _) _ _ _
   exact wpAny_bind (wpAny_missed_other D.ne (wpAny_pure ⟨rd,rfl,post q' s w _ _ _ (dd.2 e) rel.toks (.refl _ _) Cd rd'⟩))
 · obtain ⟨v,Cv,hk⟩:=dd.1 u e
   exact wpAny_pure ⟨rv,rfl,post v s w _ u rv hk rel.toks (.refl _ _) Cv r⟩
theorem sound_get1 {o e:Expr} {apos pos:Pos} {a b:C} (H:SoundE c lvl x o a) (hb:noBareCall o=true) (hl:(apos.endLine==pos.line)=true) (H':SoundE c lvl x e b) (hp:plainArg e=true):SoundE c lvl x (.Call (.Attribute o "get" apos) [e] [] pos) (mGet a b (cst .none)):=
 sound_bm F.slot_dict_get F.type_dict_get F.plainAttrs_dict preM_dict soundM_get1 H hb hl (soundSp_cons hp H' soundSp_nil) (by rw[List.all_cons,hp];rfl) (by show 1<30;omega)
theorem sound_get2 {o e e':Expr} {apos pos:Pos} {a b d:C} (H:SoundE c lvl x o a) (hb:noBareCall o=true) (hl:(apos.endLine==pos.line)=true) (H':SoundE c lvl x e b) (hp:plainArg e=true) (H2:SoundE c lvl x e' d) (hp':plainArg e'=true):
  SoundE c lvl x (.Call (.Attribute o "get" apos) [e,e'] [] pos) (mGet a b d):=
 sound_bm F.slot_dict_get F.type_dict_get F.plainAttrs_dict preM_dict soundM_get2 H hb hl (soundSp_cons hp H' (soundSp_cons hp' H2 soundSp_nil)) (by rw[List.all_cons,List.all_cons,hp,hp'];rfl) (by show 2<30;omega)
theorem soundM_append:SoundM c "list.append" (λov vs s k=>isCons vs λq r=>isNil r (isLoc ov λi=>HT.get i s.hp λob=>isList ob λxs=>ok4 (Nat.succ (lenA xs)) (k .none (setO i (.list (apA (.cons q .nil) xs)) s)))):=by
 intro f w s σ A Q E k ov vs dov ds rv rvs h rel rm Co Cv ro rv' post
 obtain ⟨q,d,rq,h,Cq,rq',rfl⟩:=vs_one h Cv rv'
 obtain ⟨p,rfl,h⟩:=isLoc_true h
 obtain ⟨a,xs,ds,vs,n,rfl,hp,he,hW,g,C,r,z,h⟩:=place_list rel Co ro h
 obtain ⟨sz,h⟩:=ok4_true h
 have sz:lenA xs+1≤10000:=sz
 rw[lenA_conc C] at sz
 have ln:vs.size=ds.length:=by have:=r.length;simpa using this
 refine append_at g (λh' sb g'=>?_) (by rw[sizeLine_eq];omega)
 have E':Ext w σ.heap w h':=.write hW sb ⟨_,g'⟩
 have O':ObjAt c w (.list (apA (.cons q .nil) xs)) a a h':=⟨ds++[d],vs.push rq,n+1,rfl,g',apA_conc (.cons Cq .nil) C,by rw[Array.toList_push];exact RdL.append (.cons (rq'.ext E') .nil) (r.ext E'),by simp;omega⟩
 exact post .none _ w _ .none .none h (rel.write (tk:=σ.toks) hp he sb O') E' .none .none
theorem sound_append {o e:Expr} {apos pos:Pos} {a b:C} (H:SoundE c lvl x o a) (hb:noBareCall o=true) (hl:(apos.endLine==pos.line)=true) (H':SoundE c lvl x e b) (hp:plainArg e=true):SoundE c lvl x (.Call (.Attribute o "append" apos) [e] [] pos) (mApp a b):=
 sound_bm F.slot_list_append F.type_list_append F.plainAttrs_list preM_list soundM_append H hb hl (soundSp_cons hp H' soundSp_nil) (by rw[List.all_cons,hp];rfl) (by show 1<30;omega)
end
theorem P.eqb_self:∀p:P,P.eqb p p=true
 | .h=>rfl
 | .o p=>P.eqb_self p
 | .i p=>P.eqb_self p
theorem isD_true {v:AV} {n:Bool} {k:AV->AV->AV->Bool} (h:isD v n k=true):(v=.nil∧n=true)∨∃a b t,v=.dcons a b t∧k a b t=true:=by
 cases v with
 |nil=>exact .inl ⟨rfl,h⟩
 |dcons a b t=>exact .inr ⟨a,b,t,rfl,h⟩
 |_=>exact fF h
theorem apD_conc {ρ:Rho} {ys:AV} {es:List (CD×CD)} (Y:ConcD ρ ys es) {xs:AV} {ds:List (CD×CD)} (X:ConcD ρ xs ds):ConcD ρ (apD ys xs) (ds++es):=ConcD.ind Y (λa b U r=>.cons a b r) X
section
variable {c:Cf} {lvl:Nat} {x:Cx}
theorem srcL_true {f:Fm} {w:Wd} {s:St} {σ:Shared} {p:P} {v:AV} {d:CD} {rv:Value} {a:Addr} {k:AV->Bool} (rel:Rel c f w s σ) (hf:∃o,HT.find p s.hp=some o) (he:w.eta p=some (a,a)) (hW:w.W a) (C:Conc c.ρ v d) (r:Rd c.wo.params w σ.heap d rv) (h:srcL p v s k=true):
  ∃b xs ds,rv=.ref b∧b≠a∧ConcL c.ρ xs ds∧ListAt c.wo.params w σ.heap b ds∧k xs=true:=by
 cases C with
 |lst C=>
  cases r with
  |lst e cl dd nx rs z=>exact ⟨_,_,_,rfl,λq=>nx.1 (w.sub _ (q▸hW)),C,⟨_,_,_,e,cl,dd,rs,nx.2,z⟩,h⟩
 |loc j=>
  have h:ite (P.eqb p j) false (HT.get j s.hp λo=>isList o k)=true:=h
  rcases ite_true h with ⟨_,h⟩|⟨q,h⟩
  · cases h
  obtain ⟨b,xs,ds,vs,n,rfl,hj,he',hW',g,C,r9,z,h⟩:=place_list rel (.loc j) r h
  refine ⟨b,xs,ds,rfl,λe=>?_,C,⟨_,_,_,g,rfl,rfl,r9,z,rfl⟩,h⟩
  obtain ⟨o,ho⟩:=hf
  have:=rel.inj p j _ _ a b a ho hj he (e▸he')
  rw[this,P.eqb_self] at q
  cases q
 |_=>exact fF h
theorem soundM_extend:SoundM c "list.extend" (λov vs s k=>isCons vs λq r=>isNil r (isLoc ov λi=>srcL i q s λys=>HT.get i s.hp λob=>isList ob λxs=>ok4 (lenA (apA ys xs)) (k .none (setO i (.list (apA ys xs)) s)))):=by
 intro f w s σ A Q E k ov vs dov ds rv rvs h rel rm Co Cv ro rv' post
 obtain ⟨q,d,rq,h,Cq,rq',rfl⟩:=vs_one h Cv rv'
 obtain ⟨p,rfl,h⟩:=isLoc_true h
 obtain ⟨a,rfl,hf,he,hW⟩:∃a,rv=.ref a∧(∃o,HT.find p s.hp=some o)∧w.eta p=some (a,a)∧w.W a:=by
  have key:∀j,HT.get p s.hp (λob=>isList ob λxs=>ok4 (lenA (apA j xs)) (k .none (setO p (.list (apA j xs)) s)))=true->∃a,rv=.ref a∧(∃o,HT.find p s.hp=some o)∧w.eta p=some (a,a)∧w.W a:=by
   intro j h
   obtain ⟨a,xs,ds,vs,n,e,hp,he,hW,_⟩:=place_list rel Co ro h
   exact ⟨a,e,⟨_,hp⟩,he,hW⟩
  cases q with
  |lst xs=>exact key _ h
  |loc j=>
   have h:ite (P.eqb p j) false (HT.get j s.hp λo=>isList o λys=>HT.get p s.hp λob=>isList ob λxs=>ok4 (lenA (apA ys xs)) (k .none (setO p (.list (apA ys xs)) s)))=true:=h
   rcases ite_true h with ⟨_,h⟩|⟨_,h⟩
   · cases h
   obtain ⟨o,_,h⟩:=HT.get_true h
   obtain ⟨ys,_,h⟩:=isList_true h
   exact key _ h
  |_=>exact fF h
 obtain ⟨b,ys,es,rfl,ne,Cy,⟨ob,us,m,hob,hcb,hdb,ry,zy,_⟩,h⟩:=srcL_true rel hf he hW Cq rq' h
 obtain ⟨a',xs,ds,vs,n,e',hp,he',hW',g,C,r,z,h⟩:=place_list rel Co ro h
 cases e'
 obtain ⟨sz,h⟩:=ok4_true h
 have Cc:=apA_conc Cy C
 rw[lenA_conc Cc,List.length_append] at sz
 have ln:vs.size=ds.length:=by have:=r.length;simpa using this
 have ln2:us.size=es.length:=by have:=ry.length;simpa using this
 refine wpAny_call_entry F.slot_list_extend ⟨_,g,rfl⟩ F.entry_list_extend ?_ (F.args_list_extend_2 _ _)
 show wpAny _ _ (Builtin.List.listExtendWith (.ref a) (.ref b) .none) _ _ _
 unfold Builtin.List.listExtendWith
 refine wpAny_bind (wpAny_typeOf ⟨ob,hob,hcb⟩ ?_)
 rw[if_pos (by simp)]
 unfold Builtin.List.listItems
 refine wpAny_bind (wpAny_bind (wpAny_seqItems hob hdb (wpAny_pure ?_)))
 refine wpAny_bind (wpAny_bind (wpAny_seqItems g rfl (wpAny_pure ?_)))
 have tl:Builtin.List.listTooLong (vs.size+us.size)=false:=by
  unfold Builtin.List.listTooLong
  simp only[decide_eq_false_iff_not]
  try rw[sizeLine_eq]
  omega
 rw[tl,Bool.and_false,if_neg Bool.false_ne_true]
 show wpAny _ _ (updateSeq a (·++us)>>= λU=>ret .none) _ _ _
 obtain ⟨n',em⟩:∃n',Obj.mapSeq (·++us) (lObj vs n)=lObj (vs++us) n':=by
  unfold Obj.mapSeq
  dsimp only
  try split
  all_goals exact ⟨_,rfl⟩
 refine wpAny_bind (wpAny_updateSeq g rfl (wpAny_pure ⟨.none,rfl,?_⟩) (by rw[sizeLine_eq];omega) (by rw[sizeLine_eq];simp;omega))
 have g':=Heap.get?_update_self (h:=σ.heap) (a:=a) (Obj.mapSeq (·++us)) g rfl
 rw[em] at g'
 have sb:Heap.SameBut a σ.heap (σ.heap.update a (Obj.mapSeq (·++us))):=Heap.SameBut.update ..
 have E':Ext w σ.heap w (σ.heap.update a (Obj.mapSeq (·++us))):=.write hW sb ⟨_,g'⟩
 have O':ObjAt c w (.list (apA ys xs)) a a (σ.heap.update a (Obj.mapSeq (·++us))):=⟨ds++es,vs++us,n',rfl,g',Cc,by rw[Array.toList_append];exact RdL.append (ry.ext E') (r.ext E'),by simp;omega⟩
 exact post .none _ w _ .none .none h (rel.write (tk:=σ.toks) hp he sb O') E' .none .none
theorem sound_extend {o e:Expr} {apos pos:Pos} {a b:C} (H:SoundE c lvl x o a) (hb:noBareCall o=true) (hl:(apos.endLine==pos.line)=true) (H':SoundE c lvl x e b) (hp:plainArg e=true):SoundE c lvl x (.Call (.Attribute o "extend" apos) [e] [] pos) (mExt a b):=
 sound_bm F.slot_list_extend F.type_list_extend F.plainAttrs_list preM_list soundM_extend H hb hl (soundSp_cons hp H' soundSp_nil) (by rw[List.all_cons,hp];rfl) (by show 1<30;omega)
theorem soundM_pop:SoundM c "dict.pop" (λov vs s k=>isCons vs λq r=>isCons r λd r=>isNil r (isLoc ov λi=>isTup q λU=>HT.get i s.hp λob=>isDict ob λU kvs=>isD kvs (k d s) λU U U=>false)):=by
 intro f w s σ A Q E k ov vs dov ds rv rvs h rel rm Co Cv ro rv' post
 obtain ⟨q,q',d,d',rq,rd,h,Cq,Cd,rq',rd',rfl⟩:=vs_two h Cv rv'
 obtain ⟨p,rfl,h⟩:=isLoc_true h
 obtain ⟨ts,rfl,h⟩:=isTup_true h
 obtain ⟨a,ep,kvs,ds,es,rfl,hp,he,C,D,h⟩:=place_dict rel Co ro h
 rcases isD_true h with ⟨rfl,h⟩|⟨_,_,_,_,h⟩
 case inr=>cases h
 cases C with
 |nil=>
 have he0:es=#[]:=by
  have:=D.rd.length
  exact Array.toList_eq_nil_iff.mp (List.eq_nil_of_length_eq_zero (by simpa using this))
 subst he0
 cases Cq with
 |tup Cq=>
 cases rq' with
 |@tup t ot items n _ hot hct hdt nx rs=>
 refine wpAny_call_entry F.slot_dict_pop D.get.typeIs F.entry_dict_pop ?_ (F.args_dict_pop_3 _ _ _)
 unfold Builtin.«dict.pop»
 refine wpAny_bind ?_
 unfold Builtin.Dict.keyAndDefault
 refine wpAny_bind (wpAny_notOrdered_dict D.get.typeIs ?_)
 show wpAny _ _ (pure (a,Value.ref t,some rd)) _ _ _
 refine wpAny_pure ?_
 dsimp only
 rw[if_neg (show ¬(keyPart (Value.ref t)).isSome=true from Bool.false_ne_true)]
 refine wpAny_bind (wpAny_dictEntries D.at_ rfl ?_)
 refine wpAny_bind (wpAny_pure ?_)
 rw[if_pos (show (#[]:Array DictEntry).isEmpty=true from rfl)]
 refine wpAny_bind (wpAny_rule ?_)
 refine wpAny_bind (wpAny_pure ?_)
 rw[if_pos (show (none:Option DictEntry).isNone=true from rfl)]
 refine wpAny_bind ?_
 unfold Builtin.Dict.missedRemoval
 rw[if_neg (by rw[D.sys];exact Bool.false_ne_true)]
 refine wpAny_pure ?_
 exact wpAny_bind (wpAny_rule (wpAny_pure ⟨rd,rfl,post.now h rel Cd rd'⟩))
theorem sound_pop {o e e':Expr} {apos pos:Pos} {a b d:C} (H:SoundE c lvl x o a) (hb:noBareCall o=true) (hl:(apos.endLine==pos.line)=true) (H':SoundE c lvl x e b) (hp:plainArg e=true) (H2:SoundE c lvl x e' d) (hp':plainArg e'=true):
  SoundE c lvl x (.Call (.Attribute o "pop" apos) [e,e'] [] pos) (mPop a b d):=
 sound_bm F.slot_dict_pop F.type_dict_pop F.plainAttrs_dict preM_dict soundM_pop H hb hl (soundSp_cons hp H' (soundSp_cons hp' H2 soundSp_nil)) (by rw[List.all_cons,List.all_cons,hp,hp'];rfl) (by show 2<30;omega)
theorem setDefault_key {prog:Program} {wo:World} {w:Wd} {A:Around} {E:Value->Shared->Prop} {σ:Shared} {d:Addr} {es:Array DictEntry} {ep:Nat} {kvs:List (CD×CD)} {k v:CD} {kv vv:Value} {Q:Value->Shared->Prop} (hu:A.units+6<cLine) (hk:k.key 6=true) (rk:Rd wo.params w σ.heap k kv) (rv:Rd wo.params w σ.heap v vv) (ho:σ.heap.get? d=some (dObj es ep))
  (re:RdE wo.params w σ.heap kvs es.toList) (nd:(kvs.map (·.1)).Nodup) (hX:w.X d) (hsz:es.size≤sizeLine)
  (hsome:∀u rv tk,getK k kvs=some u->Rd wo.params w σ.heap u rv->Q rv {σ with toks:=tk})
  (hnone:∀h' es' tk,getK k kvs=none->h'.get? d=some (dObj es' (ep+1))->Heap.SameBut d σ.heap h'->RdE wo.params w h' (kvs++[(k,v)]) es'.toList->Q vv {σ with heap:=h',toks:=tk}):
  wpAny (model prog wo) A (dictSetDefault d kv vv) Q E σ:=by
 have up:∀{h':Heap},Heap.SameBut d σ.heap h'->(∃o,h'.get? d=some o)->ExtR w σ.heap w h':=λs o=>⟨λU U e=>e,λa o e n=>(s.2 a λq=>n (q▸hX)).trans e,λU U U q=>q⟩
 unfold dictSetDefault
 try with_reducible refine wpAny_holding ?_
 refine wpAny_bind (pyHash_key 6 k kv A σ _ hk rk hu λtk=>wpAny_bind (dictFind_key (σ:={σ with toks:=tk}) hu hk rk ho rfl re nd ?_ ?_))
 · intro hno
   have hn:=getK_none hno
   refine wpAny_bind (wpAny_rule (wpAny_bind (wpAny_updateDictKeys (hz:=hsz) (s:={σ with toks:=tk}) ho rfl (wpAny_pure ?_))))
   have g:=Heap.get?_update_self (h:=σ.heap) (a:=d) (Obj.mapDictKeys λes=>es.push ⟨keyH wo.params k,kv,vv⟩) ho rfl
   refine hnone _ (es.push ⟨keyH wo.params k,kv,vv⟩) tk hn g (Heap.SameBut.update ..) ?_
   have X:=up (Heap.SameBut.update σ.heap d (Obj.mapDictKeys λes=>es.push ⟨keyH wo.params k,kv,vv⟩)) ⟨_,g⟩
   rw[Array.toList_push]
   exact (re.extR X).append hk (rk.extR X) (rv.extR X)
 · intro j u hj
   refine wpAny_bind (wpAny_dictEntries (s:={σ with toks:=tk}) ho rfl ?_)
   have hl:j<es.size:=by
    have:=re.length
    rcases Nat.lt_or_ge j kvs.length with q|q
    · simp at this;omega
    · rw[List.getElem?_eq_none q] at hj;cases hj
   have e:es[j]?=some es[j]:=Array.getElem?_eq_getElem hl
   obtain ⟨k',v',h1,_,_,_,h5⟩:=RdE.get j es[j] re (by simp[hl])
   rw[hj] at h1
   cases h1
   rw[e]
   exact wpAny_bind (wpAny_rule (wpAny_pure (hsome u _ tk (getK_some nd hj) h5)))
theorem soundM_setd:SoundM c "dict.setdefault" (λov vs s k=>isCons vs λq r=>isCons r λd r=>isNil r (isLoc ov λi=>HT.get i s.hp λob=>isDict ob λep kvs=>and (keyA q 6) (findD s.bd q kvs (λv=>k v s) (ok4 (Nat.succ (lenD kvs)) (k d (setO i (.dict (Nat.succ ep) (apD (.dcons q d .nil) kvs)) s)))))):=by
 intro f w s σ A Q E k ov vs dov ds rv rvs h rel rm Co Cv ro rv' post
 obtain ⟨q,q',d,d',rq,rd,h,Cq,Cd,rq',rd',rfl⟩:=vs_two h Cv rv'
 obtain ⟨p,rfl,h⟩:=isLoc_true h
 obtain ⟨a,ep,kvs,ds,es,rfl,hp,he,C,D,h⟩:=place_dict rel Co ro h
 rw[Bool.and_eq_true] at h
 have hk:=(keyA_conc q).1 6 d h.1 Cq
 have dd:=findD_dec rel.bd Cq hk C D.rd.keys h.2
 have hu:=rm.units
 refine wpAny_call_entry F.slot_dict_setdefault D.get.typeIs F.entry_dict_setdefault ?_ (F.args_dict_setdefault_3 _ _ _)
 unfold Builtin.«dict.setdefault»
 refine wpAny_bind ?_
 unfold Builtin.Dict.keyAndDefault
 refine wpAny_bind (wpAny_notOrdered_dict D.get.typeIs ?_)
 show wpAny _ _ (pure (a,rq,some rd)) _ _ _
 refine wpAny_pure ?_
 dsimp only
 rw[if_neg (by rw[D.sys];exact Bool.false_ne_true)]
 refine wpAny_bind (setDefault_key (A:=A.in1) (by show A.units+1+6<cLine;omega) hk rq' rd' D.at_ D.rd D.nd (w.sub _ D.W) (Nat.le_trans D.size (by decide)) ?_ ?_)
 · intro u rv tk e r
   obtain ⟨v,Cv,hk⟩:=dd.1 u e
   exact wpAny_pure ⟨rv,rfl,post v s w _ u rv hk rel.toks (.refl _ _) Cv r⟩
 · intro h' es' tk e g sb re
   obtain ⟨sz,hk'⟩:=ok4_true (dd.2 e)
   have sz:lenD kvs+1≤10000:=sz
   rw[lenD_conc C] at sz
   have z1:=re.length
   have z2:es'.toList.length=es'.size:=Array.length_toList
   have E':Ext w σ.heap w h':=.write D.W sb ⟨_,g⟩
   have nd':((ds++[(d,d')]).map (·.1)).Nodup:=by have:=putK_nodup (k:=d) (v:=d') D.nd;rw[putK_new e] at this;exact this
   have O':ObjAt c w (.dict (Nat.succ ep) (apD (.dcons q q' .nil) kvs)) a a h':=⟨_,es',rfl,apD_conc (.cons Cq Cd .nil) C,g,re,nd',D.sys,by simp at z1;omega,D.W⟩
   exact wpAny_pure ⟨rd,rfl,post q' _ w _ d' rd hk' (rel.write (tk:=tk) hp he sb O') E' Cd (rd'.ext E')⟩
theorem sound_setd {o e e':Expr} {apos pos:Pos} {a b d:C} (H:SoundE c lvl x o a) (hb:noBareCall o=true) (hl:(apos.endLine==pos.line)=true) (H':SoundE c lvl x e b) (hp:plainArg e=true) (H2:SoundE c lvl x e' d) (hp':plainArg e'=true):
  SoundE c lvl x (.Call (.Attribute o "setdefault" apos) [e,e'] [] pos) (mSetd a b d):=
 sound_bm F.slot_dict_setdefault F.type_dict_setdefault F.plainAttrs_dict preM_dict soundM_setd H hb hl (soundSp_cons hp H' (soundSp_cons hp' H2 soundSp_nil)) (by rw[List.all_cons,List.all_cons,hp,hp'];rfl) (by show 2<30;omega)
end
theorem isPair_true {x:AV} {k:Nat->Nat->Bool} (h:isPair x k=true):∃a b,x=.tup (.cons (.nat a) (.cons (.nat b) .nil))∧k a b=true:=by
 obtain ⟨xs,rfl,h⟩:=isTup_true h
 obtain ⟨p,t,rfl,h⟩:=isCons_true h
 obtain ⟨a,rfl,h⟩:=isNat_true h
 obtain ⟨q,t2,rfl,h⟩:=isCons_true h
 obtain ⟨b,rfl,h⟩:=isNat_true h
 obtain ⟨rfl,h⟩:=isNil_true h
 exact ⟨a,b,rfl,h⟩
theorem pair_conc {ρ:Rho} {a b:Nat} {d:CD} (C:Conc ρ (.tup (.cons (.nat a) (.cons (.nat b) .nil))) d):d=.tup [.int a,.int b]:=by
 cases C with
 |tup C=>
 cases C with
 |cons C1 C2=>
 cases C2 with
 |cons C2 C3=>
 cases C3 with
 |nil=>
 cases C1
 cases C2
 rfl
theorem keyH_pair {Pm:Params} {a b:Nat}:keyH Pm (.tup [.int a,.int b])=hashK a b:=rfl
theorem diffG_true (H:Nat->Nat->Int) {x y:AV} (h:(isPair x λa b=>isPair y λc d=>Bool.rec true false (decide (H a b=H c d)))=true):
  ∃a b a' b',x=.tup (.cons (.nat a) (.cons (.nat b) .nil))∧y=.tup (.cons (.nat a') (.cons (.nat b') .nil))∧H a b≠H a' b':=by
 obtain ⟨a,b,e1,h1⟩:=isPair_true h
 obtain ⟨a',b',e2,h2⟩:=isPair_true h1
 refine ⟨a,b,a',b',e1,e2,λe=>?_⟩
 rw[decide_eq_true e] at h2
 cases h2
theorem diffH_true {ρ:Rho} {Pm:Params} {x y:AV} {dx dy:CD} (h:diffH x y=true) (X:Conc ρ x dx) (Y:Conc ρ y dy):keyH Pm dx≠keyH Pm dy:=by
 unfold diffH at h
 obtain ⟨a,b,a',b',e1,e2,ne⟩:=diffG_true hashK h
 rw[e1] at X
 rw[e2] at Y
 rewrite [pair_conc X,pair_conc Y,keyH_pair,keyH_pair]
 exact ne
section
variable {prog:Program} {wo:World} {A:Around} {E:Value->Shared->Prop} {σ:Shared}
theorem forIn_arr {α:Type} {M:Model} {A:Around} {E:Value->Shared->Prop} {σ:Shared} {Q:PUnit->Shared->Prop} (f:α->PUnit->Sem (ForInStep PUnit)):∀(l:List α),(∀e∈l,wpAny M A (f e PUnit.unit) (λr s'=>r=.yield PUnit.unit∧s'=σ) E σ)->Q PUnit.unit σ->wpAny M A (forIn l PUnit.unit f) Q E σ
 |[],_,h=>by rw[List.forIn_nil];exact wpAny_pure h
 |e::l,hf,h=>by
  rw[List.forIn_cons]
  refine wpAny_bind (wpAny_mono (hf e List.mem_cons_self) (λr s' hr=>?_) λU U x=>x)
  obtain ⟨rfl,rfl⟩:=hr
  exact forIn_arr f l (λe he=>hf e (List.mem_cons_of_mem _ he)) h
theorem entries_quiet {id:String} {d:Addr} {o:Obj} {es:Array DictEntry} {ep:Nat} {Q:Array DictEntry->Shared->Prop} (ho:σ.heap.get? d=some o) (hd:o.data=.dict es ep) (hT:∀e∈es.toList,∃t,e.key=.ref t∧σ.TypeIs (.ref t) "tuple")
  (hf:∀e∈es.toList,¬(es.filter (·.hash==e.hash)).size>1) (h:Q es σ):wpAny (model prog wo) A (Builtin.Dict.entriesForEmpty id d) Q E σ:=by
 unfold Builtin.Dict.entriesForEmpty
 refine wpAny_bind (wpAny_dictEntries ho hd ?_)
 rw[← Array.forIn_toList]
 refine wpAny_bind (forIn_arr _ _ (λe he=>?_) (wpAny_pure h))
 obtain ⟨t,ek,hT⟩:=hT e he
 rw[ek]
 unfold Builtin.Dict.quietEq
 refine wpAny_bind (wpAny_bind (wpAny_specialOf hT F.slot_tuple_eq.lookup (wpAny_pure ?_)))
 rw[if_pos (by decide),if_neg (hf e he)]
 exact wpAny_pure ⟨rfl,rfl⟩
end
section
variable {prog:Program} {wo:World} {ρ:Rho} {bd:BL}
theorem merge_key {nm:String} {w:Wd} {A:Around} {E:Value->Shared->Prop} {σ:Shared} {Q:Unit->Shared->Prop} (B:BOk ρ bd) (hu:A.units+6<cLine) {d o:Addr} {oo:Obj} {eso es:Array DictEntry} {epo m:Nat} {ys acc:AV} {more cds:List (CD×CD)} {kk:AV->Nat->Bool} (hod:o≠d) (sys:(o==sysModules)=false)
  (ho:σ.heap.get? o=some oo) (hoo:oo.data=.dict eso epo) (dX:w.X d) (Cy:ConcD ρ ys more) (ry:RdE wo.params w σ.heap more eso.toList) (hk:putsD bd ys acc m kk=true) (Ca:ConcD ρ acc cds) (g:σ.heap.get? d=some (dObj es m)) (re:RdE wo.params w σ.heap cds es.toList) (nd:(cds.map (·.1)).Nodup)
  (hz:es.size+eso.size≤30000) (hne:es.isEmpty=false)
  (fin:∀h' tk acc' m' cds' es',kk acc' m'=true->ConcD ρ acc' cds'->Heap.SameBut d σ.heap h'->h'.get? d=some (dObj es' m')->RdE wo.params w h' cds' es'.toList->(cds'.map (·.1)).Nodup->Q () {σ with heap:=h',toks:=tk}):
  wpAny (model prog wo) A (Builtin.Dict.mergeDict nm d o) Q E σ:=by
 unfold Builtin.Dict.mergeDict
 rw[if_neg (by simpa using Ne.symm hod)]
 unfold Builtin.Dict.showsAll
 rw[if_neg (by rw[sys];exact Bool.false_ne_true)]
 refine wpAny_bind (wpAny_pure ?_)
 refine wpAny_bind (wpAny_dictEntries ho hoo ?_)
 extract_lets few j1
 have h1:wpAny (model prog wo) A (j1 ()) Q E σ:=by
  show wpAny _ _ (dictEpoch o>>= _) _ _ _
  refine wpAny_bind (wpAny_dictEpoch ho hoo ?_)
  refine wpAny_bind (wpAny_dictEntries ho hoo ?_)
  rw[Std.Legacy.Range.forIn_eq_forIn_range']
  simp only[Std.Legacy.Range.size,Nat.sub_zero,Nat.add_sub_cancel,Nat.div_one]
  refine wpAny_bind ?_
  refine wpAny_forIn_list _
   (λrest U s'=>∃h' tk i ys' more' acc' m' cds' es',s'={σ with heap:=h',toks:=tk}∧rest=List.range' i (eso.size-i)∧i≤eso.size∧ConcD ρ ys' more'∧RdE wo.params w σ.heap more' (eso.toList.drop i)∧putsD bd ys' acc' m' kk=true∧ConcD ρ acc' cds'∧Heap.SameBut d σ.heap h'∧h'.get? d=some (dObj es' m')∧RdE wo.params w h' cds' es'.toList∧(cds'.map (·.1)).Nodup∧es'.size≤es.size+i)
   _ ?_ ?_ _ _ ⟨σ.heap,σ.toks,0,ys,more,acc,m,cds,es,rfl,by simp,Nat.zero_le _,Cy,by simpa using ry,hk,Ca,Heap.SameBut.refl _ _,g,re,nd,by simp⟩
  · intro x rest b s' h9;obtain ⟨h',tk,i,ys',more',acc',m',cds',es',rfl,hr,hi,Cy',ry',hk',Ca',sb,g',re',nd',hz'⟩:=h9
    have hlt:i<eso.size:=by
     rcases Nat.lt_or_ge i eso.size with h|h
     · exact h
     · rw[Nat.sub_eq_zero_of_le h] at hr;simp at hr
    obtain ⟨rfl,hrest⟩:x=i∧rest=List.range' (i+1) (eso.size-(i+1)):=by
     have e:eso.size-i=(eso.size-(i+1))+1:=by omega
     rw[e,List.range'_succ] at hr
     injection hr with h1 h2
     exact ⟨h1,h2⟩
    have ho':h'.get? o=some oo:=(sb.2 o hod).trans ho
    refine wpAny_bind (wpAny_dictEntries ho' hoo ?_)
    rw[Array.getElem?_eq_getElem hlt]
    have ed:eso.toList.drop x=eso[x]::eso.toList.drop (x+1):=by rw[List.drop_eq_getElem_cons (by simpa using hlt)];simp
    rw[ed] at ry'
    have E':ExtR w σ.heap w h':=⟨λU U e=>e,λa o e n=>(sb.2 a λq=>n (q▸dX)).trans e,λU U U q=>q⟩
    generalize hev:eso[x]=en at ry'
    cases ry' with
    |@cons k v dt kv vv et hkey rk rv rr=>
    cases Cy' with
    |@cons q y t _ _ _ Cq Cv Ct=>
    have hk1:and (keyA q 6) (putD bd q y acc' λacc'' n=>putsD bd t acc'' (Nat.add m' n) kk)=true:=hk'
    rw[Bool.and_eq_true] at hk1
    obtain ⟨r,n,hk2,Cr,hn⟩:=putD_dec B Cq Cv hkey Ca' re'.keys hk1.2
    show wpAny _ _ (holding [kv,vv] (dictSetHashed d kv (keyH wo.params k) vv)>>= _) _ _ _
    refine wpAny_bind (wpAny_holding (dictSetHashed_key (σ:={σ with heap:=h',toks:=tk}) hu hkey (rk.extR E') (rv.extR E') g' re' nd' dX (by rw[sizeLine_eq];omega) λh8 es8 ep8 tk8 g8 sb8 re8 hep=>?_))
    refine wpAny_bind (wpAny_dictEpoch (s:={σ with heap:=h8,toks:=tk8}) ((sb8.2 o hod).trans ho') hoo ?_)
    rw[if_neg (by simp)]
    have hepn:ep8=Nat.add m' n:=by
     rcases hn with ⟨⟨u,hu⟩,rfl⟩|⟨hu,rfl⟩<;>rw[hep,hu]<;>rfl
    subst hepn
    have z1:=re8.length
    have z2:=re'.length
    have z3:=putK_length (k:=k) (v:=v) cds'
    have z4:es8.toList.length=es8.size:=Array.length_toList
    have z5:es'.toList.length=es'.size:=Array.length_toList
    exact wpAny_pure ⟨h8,tk8,x+1,t,dt,r,_,_,es8,rfl,hrest,hlt,Ct,rr,hk2,Cr,sb.trans sb8,g8,re8,putK_nodup nd',by omega⟩
  · intro b s' h9;obtain ⟨h',tk,i,ys',more',acc',m',cds',es',rfl,hr,hi,Cy',ry',hk',Ca',sb,g',re',nd',hz'⟩:=h9
    have hin:i=eso.size:=by
     rcases Nat.lt_or_ge i eso.size with h|h
     · have e:eso.size-i=(eso.size-(i+1))+1:=by omega
       rw[e,List.range'_succ] at hr;exact nomatch hr
     · exact Nat.le_antisymm hi h
    rw[hin,List.drop_of_length_le (by simp)] at ry'
    cases ry' with
    |nil=>
    cases Cy' with
    |nil=>exact wpAny_pure (fin h' tk acc' m' cds' es' hk' Ca' sb g' re' nd')
 by_cases hf:(!few)=true
 · rw[if_pos hf]
   refine wpAny_bind (wpAny_dictEntries g rfl ?_)
   rw[if_neg (by rw[hne];exact Bool.false_ne_true)]
   exact h1
 · rw[if_neg hf]
   exact h1
theorem copy_key {nm:String} {A:Around} {E:Value->Shared->Prop} {σ:Shared} {Q:Unit->Shared->Prop} {d o:Addr} {oo:Obj} {eso:Array DictEntry} {epo m:Nat} (hod:o≠d) (sys:(o==sysModules)=false)
  (ho:σ.heap.get? o=some oo) (hoo:oo.data=.dict eso epo) (hT:∀e∈eso.toList,∃t,e.key=.ref t∧σ.TypeIs (.ref t) "tuple") (hf:∀e∈eso.toList,¬(eso.filter (·.hash==e.hash)).size>1) (g:σ.heap.get? d=some (dObj #[] m)) (hz:eso.size≤10000) (hne:eso.isEmpty=false)
  (fin:∀h',Heap.SameBut d σ.heap h'->h'.get? d=some (dObj eso (m+1))->Q () {σ with heap:=h'}):
  wpAny (model prog wo) A (Builtin.Dict.mergeDict nm d o) Q E σ:=by
 unfold Builtin.Dict.mergeDict
 rw[if_neg (by simpa using Ne.symm hod)]
 unfold Builtin.Dict.showsAll
 rw[if_neg (by rw[sys];exact Bool.false_ne_true)]
 refine wpAny_bind (wpAny_pure ?_)
 refine wpAny_bind (wpAny_dictEntries ho hoo ?_)
 dsimp only
 have hfew:(decide (eso.size≤8)&&eso.all λe=>(keyPart e.key).isSome)=false:=by
  have:(eso.all λe=>(keyPart e.key).isSome)=false:=by
   cases hl:eso.toList with
   |nil=>rw[Array.toList_eq_nil_iff.mp hl] at hne;exact absurd hne (by decide)
   |cons e r=>
    obtain ⟨t,ek,_⟩:=hT e (by rw[hl];exact List.mem_cons_self)
    rw[← Array.all_toList,hl,List.all_cons,ek]
    rfl
  rw[this,Bool.and_false]
 rw[hfew,if_pos (show (!false)=true from rfl)]
 refine wpAny_bind (wpAny_dictEntries g rfl ?_)
 rw[if_pos (show (#[]:Array DictEntry).isEmpty=true from rfl)]
 refine wpAny_bind (entries_quiet ho hoo hT hf ?_)
 rw[hne,if_pos (show (!false)=true from rfl)]
 refine wpAny_bind (wpAny_updateDictKeysTo g rfl (wpAny_pure (fin _ (Heap.SameBut.update ..) ?_)) (by rw[sizeLine_eq];show eso.size≤_;omega))
 exact Heap.get?_update_self _ g rfl
theorem merge_none {nm:String} {A:Around} {E:Value->Shared->Prop} {σ:Shared} {Q:Unit->Shared->Prop} {d o:Addr} {oo:Obj} {epo:Nat} (hod:o≠d) (sys:(o==sysModules)=false)
  (ho:σ.heap.get? o=some oo) (hoo:oo.data=.dict #[] epo) (fin:Q () σ):wpAny (model prog wo) A (Builtin.Dict.mergeDict nm d o) Q E σ:=by
 unfold Builtin.Dict.mergeDict
 rw[if_neg (by simpa using Ne.symm hod)]
 unfold Builtin.Dict.showsAll
 rw[if_neg (by rw[sys];exact Bool.false_ne_true)]
 refine wpAny_bind (wpAny_pure ?_)
 refine wpAny_bind (wpAny_dictEntries ho hoo ?_)
 dsimp only
 rw[if_neg (show ¬(!(decide ((#[]:Array DictEntry).size≤8)&&(#[]:Array DictEntry).all λe=>(keyPart e.key).isSome))=true from by simp)]
 refine wpAny_bind (wpAny_dictEpoch ho hoo ?_)
 refine wpAny_bind (wpAny_dictEntries ho hoo ?_)
 rw[Std.Legacy.Range.forIn_eq_forIn_range']
 exact wpAny_bind (wpAny_pure (wpAny_pure fin))
end
section
variable {c:Cf} {lvl:Nat} {x:Cx}
theorem srcD_any {p:P} {v:AV} {s:St} {k:AV->Bool} (h:srcD p v s k=true):∃ys,k ys=true:=by
 cases v with
 |dic xs=>exact ⟨xs,h⟩
 |loc j=>
  have h:ite (P.eqb p j) false (HT.get j s.hp λo=>isDict o λU xs=>k xs)=true:=h
  rcases ite_true h with ⟨_,h⟩|⟨q,h⟩
  · cases h
  obtain ⟨o,_,h⟩:=HT.get_true h
  obtain ⟨_,ys,_,h⟩:=isDict_true h
  exact ⟨ys,h⟩
 |_=>exact fF h
theorem srcD_true {f:Fm} {w:Wd} {s:St} {σ:Shared} {p:P} {v:AV} {d:CD} {rv:Value} {a:Addr} {k:AV->Bool} (rel:Rel c f w s σ) (hf:∃o,HT.find p s.hp=some o) (he:w.eta p=some (a,a)) (hW:w.W a) (C:Conc c.ρ v d) (r:Rd c.wo.params w σ.heap d rv) (h:srcD p v s k=true):
  ∃b xs ds,rv=.ref b∧b≠a∧ConcD c.ρ xs ds∧DictAt c.wo.params w σ.heap b ds∧k xs=true:=by
 cases C with
 |dic C=>
  cases r with
  |dic e ex dd nx re nd=>exact ⟨_,_,_,rfl,λq=>nx.1 (w.sub _ (q▸hW)),C,⟨_,_,_,e,ex.1,dd,re,nd,ex.2,nx.2⟩,h⟩
 |loc j=>
  have h:ite (P.eqb p j) false (HT.get j s.hp λo=>isDict o λU xs=>k xs)=true:=h
  rcases ite_true h with ⟨_,h⟩|⟨q,h⟩
  · cases h
  obtain ⟨b,ep,kvs,ds,es,rfl,hj,he',C,D,h⟩:=place_dict rel (.loc j) r h
  refine ⟨b,kvs,ds,rfl,λe=>?_,C,D.get,h⟩
  obtain ⟨o,ho⟩:=hf
  have:=rel.inj p j _ _ a b a ho hj he (e▸he')
  rw[this,P.eqb_self] at q
  cases q
 |_=>exact fF h
theorem soundM_update:SoundM c "dict.update" (λov vs s k=>isCons vs λq r=>isNil r (isLoc ov λi=>srcD i q s λys=>HT.get i s.hp λob=>isDict ob λep kvs=>
  isD kvs
   (isD ys (k .none s) λq U t=>isD t (isTup q λU=>k .none (setO i (.dict (Nat.succ ep) ys) s)) λq2 U t2=>isD t2 (ite (diffH q q2) (k .none (setO i (.dict (Nat.succ ep) ys) s)) false) λU U U=>false)
   (λU U U=>putsD s.bd ys kvs ep λkvs ep=>ok4 (lenD kvs) (k .none (setO i (.dict ep kvs) s))))):=by
 intro f w s σ A Q E k ov vs dov ds rv rvs h rel rm Co Cv ro rv' post
 obtain ⟨q,d,rq,h,Cq,rq',rfl⟩:=vs_one h Cv rv'
 obtain ⟨p,rfl,h⟩:=isLoc_true h
 obtain ⟨a,rfl,hf,he,hW⟩:∃a,rv=.ref a∧(∃o,HT.find p s.hp=some o)∧w.eta p=some (a,a)∧w.W a:=by
  obtain ⟨ys,h⟩:=srcD_any h
  obtain ⟨a,ep,kvs,ds,es,e,hp,he,C,D,h⟩:=place_dict rel Co ro h
  exact ⟨a,e,⟨_,hp⟩,he,D.W⟩
 obtain ⟨b,ys,more,rfl,ne,Cy,⟨ob,eso,epo,hob,hcb,hdb,ry,ndy,sys,zy⟩,h⟩:=srcD_true rel hf he hW Cq rq' h
 obtain ⟨a',ep,kvs,ds,es,e',hp,he',C,D,h⟩:=place_dict rel Co ro h
 cases e'
 have hu:=rm.units
 have hTb:σ.TypeIs (.ref b) "dict":=⟨ob,hob,hcb.1⟩
 refine wpAny_call_entry F.slot_dict_update D.get.typeIs F.entry_dict_update ?_ (F.args_dict_update_2 _ _)
 unfold Builtin.«dict.update»
 refine wpAny_bind ?_
 unfold Builtin.Dict.selfAndRest
 refine wpAny_bind (wpAny_notOrdered_dict D.get.typeIs ?_)
 show wpAny _ _ (pure (a,[Value.ref b])) _ _ _
 refine wpAny_pure ?_
 show wpAny _ _ (Builtin.Dict.updateFrom "dict.update" a (.ref b) [] .none) _ _ _
 unfold Builtin.Dict.updateFrom
 refine wpAny_bind (wpAny_typeOf hTb ?_)
 rw[if_neg (by decide)]
 refine wpAny_bind ?_
 unfold Builtin.Dict.merge
 refine wpAny_bind ?_
 unfold Builtin.Dict.readDirectly
 refine wpAny_bind (wpAny_isInstance hTb isSubtype_dict_dict ?_)
 refine ifn Bool.false_ne_true ?_
 refine wpAny_bind (wpAny_specialOf hTb F.slot_dict_iter.lookup (wpAny_pure ?_))
 refine ifp (by rfl) ?_
 refine wpAny_bind (wpAny_pure ?_)
 have done:∀(h':Heap) tk o',Heap.SameBut a σ.heap h'->(∃o,h'.get? a=some o)->ObjAt c w o' a a h'->k .none (setO p o' s)=true->
   wpAny (model c.prog c.wo) A.in1 (Builtin.Dict.addKeywords a []>>= λU=>ret .none) (λfin s'=>∃v,fin=Fin.done (Flow.ret v)∧Q v s') E {σ with heap:=h',toks:=tk}:=by
  intro h' tk o' sb ge O' hk
  exact wpAny_bind (wpAny_pure (wpAny_pure ⟨.none,rfl,post .none _ w _ .none .none hk (rel.write (tk:=tk) hp he sb O') (.write D.W sb ge) .none .none⟩))
 have le1:=D.rd.length
 have le2:=ry.length
 have le3:es.toList.length=es.size:=Array.length_toList
 have le4:eso.toList.length=eso.size:=Array.length_toList
 have hz:=D.size
 rcases isD_true h with ⟨rfl,h1⟩|⟨q0,v0,t0,rfl,h1⟩
 · cases C with
   |nil=>
   have es0:es=#[]:=Array.toList_eq_nil_iff.mp (List.eq_nil_of_length_eq_zero (by simpa using le1))
   subst es0
   have copy:eso.isEmpty=false->(∀e∈eso.toList,∃t,e.key=.ref t∧σ.TypeIs (.ref t) "tuple")->(∀e∈eso.toList,¬(eso.filter (·.hash==e.hash)).size>1)->k .none (setO p (.dict (Nat.succ ep) ys) s)=true->
     wpAny (model c.prog c.wo) A.in1 (Builtin.Dict.mergeDict "dict.update" a b) (λU s'=>wpAny (model c.prog c.wo) A.in1 (Builtin.Dict.addKeywords a []>>= λU=>ret .none) (λfin s'=>∃v,fin=Fin.done (Flow.ret v)∧Q v s') E s') E σ:=by
    intro hne hT hfl hk
    refine copy_key ne sys hob hdb hT hfl D.at_ zy hne λh' sb g'=>?_
    have X:ExtR w σ.heap w h':=⟨λU U e=>e,λa' o e n=>(sb.2 a' λq=>n (q▸w.sub _ D.W)).trans e,λU U U q=>q⟩
    exact done h' σ.toks (.dict (Nat.succ ep) ys) sb ⟨_,g'⟩ (show ObjAt c w (.dict (Nat.succ ep) ys) a a h' from ⟨_,eso,rfl,Cy,g',ry.extR X,ndy,D.sys,zy,D.W⟩) hk
   rcases isD_true h1 with ⟨rfl,h2⟩|⟨q1,v1,t1,rfl,h2⟩
   · cases Cy with
     |nil=>
     have e0:eso=#[]:=Array.toList_eq_nil_iff.mp (List.eq_nil_of_length_eq_zero (by simpa using le2))
     subst e0
     refine merge_none ne sys hob hdb ?_
     exact wpAny_bind (wpAny_pure (wpAny_pure ⟨.none,rfl,post.now h2 rel .none .none⟩))
   · cases Cy with
     |@cons _ _ _ d1 u1 r1 Cq1 Cv1 Ct1=>
     generalize hl:eso.toList=L at ry
     cases ry with
     |@cons _ _ _ kv1 vv1 es1 hk1 rk1 rv1 rr1=>
     have key_tup:∀{q:AV} {d:CD} {kv:Value},(∃ts,q=.tup ts)->Conc c.ρ q d->Rd c.wo.params w σ.heap d kv->∃t,kv=.ref t∧σ.TypeIs (.ref t) "tuple":=by
      rintro q d kv ⟨ts,rfl⟩ C r
      cases C with
      |tup C=>cases r with|tup ho hc hd nx rs=>exact ⟨_,rfl,⟨_,ho,hc⟩⟩
     have hne:eso.isEmpty=false:=by
      cases hes:eso.isEmpty with
      |false=>rfl
      |true=>rw[Array.isEmpty_iff.mp hes] at hl;simp at hl
     rcases isD_true h2 with ⟨rfl,h3⟩|⟨q2,v2,t2,rfl,h3⟩
     · obtain ⟨ts,e1,h4⟩:=isTup_true h3
       cases Ct1 with
       |nil=>
       cases rr1 with
       |nil=>
       refine copy hne ?_ ?_ h4
       · intro e he
         rw[hl] at he
         obtain rfl:=List.mem_singleton.mp he
         exact key_tup ⟨ts,e1⟩ Cq1 rk1
       · intro e he hgt
         have:=Array.size_filter_le (p:=λx=>x.hash==e.hash) (xs:=eso)
         have e3:eso.size=1:=by rw[← le4,hl];rfl
         omega
     · rcases isD_true h3 with ⟨rfl,h4⟩|⟨_,_,_,_,h4⟩
       case inr=>cases h4
       rcases ite_true h4 with ⟨df,h5⟩|⟨_,h5⟩
       case inr=>cases h5
       obtain ⟨a1,b1,a2,b2,e1,e2,_⟩:=diffG_true hashK (show (isPair q1 λa b=>isPair q2 λc d=>Bool.rec true false (decide (hashK a b=hashK c d)))=true from df)
       cases Ct1 with
       |@cons _ _ _ d2 u2 r2 Cq2 Cv2 Ct2=>
       cases Ct2 with
       |nil=>
       cases rr1 with
       |@cons _ _ _ kv2 vv2 es2 hk2 rk2 rv2 rr2=>
       cases rr2 with
       |nil=>
       have hd:=diffH_true (Pm:=c.wo.params) df Cq1 Cq2
       have ef:∀(e:DictEntry),(eso.filter (·.hash==e.hash)).size=((eso.toList.filter (·.hash==e.hash))).length:=λe=>by rw[← Array.length_toList,Array.toList_filter]
       refine copy hne ?_ ?_ h5
       · intro e he
         rw[hl] at he
         rcases List.mem_cons.mp he with rfl|he
         · exact key_tup ⟨_,e1⟩ Cq1 rk1
         · obtain rfl:=List.mem_singleton.mp he
           exact key_tup ⟨_,e2⟩ Cq2 rk2
       · intro e he hgt
         rw[ef,hl] at hgt
         rw[hl] at he
         rcases List.mem_cons.mp he with rfl|he
         · rw[List.filter_cons,List.filter_cons,List.filter_nil] at hgt
           have q:(keyH c.wo.params d2==keyH c.wo.params d1)=false:=by simpa using Ne.symm hd
           simp[q] at hgt
         · obtain rfl:=List.mem_singleton.mp he
           rw[List.filter_cons,List.filter_cons,List.filter_nil] at hgt
           have q:(keyH c.wo.params d1==keyH c.wo.params d2)=false:=by simpa using hd
           simp[q] at hgt
 · refine merge_key (ys:=ys) (acc:=.dcons q0 v0 t0) (m:=ep) rel.bd (show A.units+1+6<cLine by omega) ne sys hob hdb (w.sub _ D.W) Cy ry h1 C D.at_ D.rd D.nd (by omega) ?_ ?_
   · cases C with
     |cons _ _ _=>
      simp at le1
      cases hes:es.isEmpty with
      |false=>rfl
      |true=>rw[Array.isEmpty_iff.mp hes] at le3 le1;simp at le1
   · intro h' tk acc' m' cds' es' h1 C1 sb g1 re1 nd1
     obtain ⟨sz,h1⟩:=ok4_true h1
     rw[lenD_conc C1] at sz
     have z1:=re1.length
     have z2:es'.toList.length=es'.size:=Array.length_toList
     exact done h' tk (.dict m' acc') sb ⟨_,g1⟩ (show ObjAt c w (.dict m' acc') a a h' from ⟨_,es',rfl,C1,g1,re1,nd1,D.sys,by omega,D.W⟩) h1
theorem sound_update {o e:Expr} {apos pos:Pos} {a b:C} (H:SoundE c lvl x o a) (hb:noBareCall o=true) (hl:(apos.endLine==pos.line)=true) (H':SoundE c lvl x e b) (hp:plainArg e=true):SoundE c lvl x (.Call (.Attribute o "update" apos) [e] [] pos) (mUpd a b):=
 sound_bm F.slot_dict_update F.type_dict_update F.plainAttrs_dict preM_dict soundM_update H hb hl (soundSp_cons hp H' soundSp_nil) (by rw[List.all_cons,hp];rfl) (by show 1<30;omega)
end
theorem rngA_up:∀(n a:Nat),RngA (upN n a) (a:Int) (n:Int) 1
 |0,a=>.nil (by simp)
 |n+1,a=>by
  show RngA (.cons (.nat a) (upN n (a+1))) _ _ _
  refine .cons (by omega) ?_
  have e1:((a:Int)+1)=((a+1:Nat):Int):=by omega
  have e2:(((n+1:Nat):Int)-1)=(n:Int):=by omega
  rw[e1,e2]
  exact rngA_up n (a+1)
theorem rngA_down:∀(n:Nat),RngA (downN n) ((n:Int)-1) (n:Int) (-1)
 |0=>.nil (by simp)
 |n+1=>by
  show RngA (.cons (.nat n) (downN n)) _ _ _
  have e1:(((n+1:Nat):Int)-1)=(n:Int):=by omega
  rw[e1]
  refine .cons (by omega) ?_
  have e2:(((n+1:Nat):Int)-1)=(n:Int):=by omega
  rw[e2]
  exact rngA_down n
section
variable {c:Cf} {lvl:Nat} {x:Cx}
theorem range_iter {f:Fm} {w:Wd} {s:St} {σ:Shared} {A:Around} {E:Value->Shared->Prop} {Q:Value->Shared->Prop} {a b st:Int} {t u v:Tok} {tk:Nat} {xs:AV} {k:It->St->Bool} (rel:Rel c f w s σ) (hs:Builtin.Range.small a b st=true) (R:RngA xs a (Builtin.Range.rangeSize a b st) st) (hk:k (.fz xs) s=true)
  (post:∀J it s' w' σ',k J s'=true->Rel c f w' s' σ'->Ext w σ.heap w' σ'.heap->ItAt c w' σ'.heap it J->w'.X it->¬w'.W it->σ.heap.get? it=none->Q (.ref it) σ'):
  wpAny (model c.prog c.wo) A (pyIter (.ref σ.heap.objs.size)) Q E {σ with heap:=σ.heap.push {cls:=.type "range",data:=.fields #[.int a t,.int b u,.int st v]},toks:=tk}:=by
 refine wpAny_pyIter_range (IsRange.new _ a b st t u v) hs ?_
 dsimp only
 have k1:∀b o,σ.heap.get? b=some o->(σ.heap.push {cls:=.type "range",data:=.fields #[.int a t,.int b u,.int st v]}).get? b=some o:=λb o e=>Heap.get?_push_of_some _ e
 have k1:∀b' o,σ.heap.get? b'=some o->(σ.heap.push {cls:=.type "range",data:=.fields #[.int a t,.int b u,.int st v]}).get? b'=some o:=λb' o e=>Heap.get?_push_of_some _ e
 generalize σ.heap.push {cls:=.type "range",data:=.fields #[.int a t,.int b u,.int st v]}=H at*
 have k2:∀b' o,σ.heap.get? b'=some o->(H.push {cls:=.type "range_iterator",data:=.fields #[rawInt a,rawInt (Builtin.Range.rangeSize a b st),rawInt st]}).get? b'=some o:=λb' o e=>Heap.get?_push_of_some _ (k1 b' o e)
 have i0:σ.heap.get? H.objs.size=none:=by
  cases e:σ.heap.get? H.objs.size with
  |none=>rfl
  |some o=>have:=k1 _ _ e;rw[Heap.none_size] at this;cases this
 obtain ⟨rel1,X1⟩:=rel.shield (tk:=tk) i0 k2 ⟨_,Heap.get?_push_size _ rfl⟩
 have nW:¬(w.shield H.objs.size).W H.objs.size:=λq=>by obtain ⟨o,e⟩:=rel.dom _ (w.sub _ q);rw[i0] at e;cases e
 exact post (.fz xs) _ s _ _ hk rel1 X1 (.rng (Heap.get?_push_size _ rfl) R) (.inr rfl) nW i0
theorem sound_range1 {n:Str} {p pos:Pos} {e:Expr} {a:C} (hx:x.glob n=true) (hg:GlobV c n (.type "range")) (hd:(n==("__debug__":Str))=false) (H:SoundE c lvl x e a) (hp:plainArg e=true):
  SoundI c lvl x (.Call (.Name n p) [e] [] pos) (itR (cst (.nat 0)) a):=by
 refine ⟨rfl,?_⟩
 intro f w s σ A Q E k fo h rel rm post
 have h:evL (.cons a .nil) s (λvs s=>isCons vs λv U=>isNat v λb=>ok4 b (k (.fz (upN (Nat.sub b 0) 0)) s))=true:=h
 rw[arm_eval_Call_Name']
 refine wpAny_bind (load_glob fo rel hx hg hd ?_)
 refine call_bi (first:=[]) rfl (soundSp_cons hp H soundSp_nil) (by rw[List.all_cons,hp];rfl) fo h rel rm ?_
 intro v s1 w1 σ1 ds vs e1 rel1 X1 C1 r1 ln
 obtain ⟨v',t,rfl,e1⟩:=isCons_true e1
 obtain ⟨b,rfl,e1⟩:=isNat_true e1
 obtain ⟨sz,e1⟩:=ok4_true e1
 cases C1 with
 |cons C1 C2=>
 cases C1 with
 |nat _=>
 cases r1 with
 |@cons _ _ _ vs r1 r2=>
 have:vs=[]:=by
  cases r2 with
  |nil=>rfl
  |cons _ _=>simp at ln
 subst this
 cases r1 with
 |int _ t=>
 refine call_range_1 ?_
 refine range_iter rel1 (small_one (by decide) (by decide) (by omega) (by omega)) ?_ e1 ?_
 · rw[rangeSize_nat]
   have:(((b:Int)-0).toNat)=b:=by omega
   rw[this]
   exact rngA_up b 0
 · intro J it s' w' σ' hk rel' X' I hX hW i0
   exact post J it s' w' σ' hk rel' (X1.trans X') I hX hW (none_of X1 i0)
theorem sound_minus {m:Nat} {k:Nat} {q pos:Pos}:SoundE c lvl x (.UnaryOp .USub (.Constant (.int (Int.ofNat (m+1))) k q) pos) (cst (.neg m)):=by
 intro f w s σ A Q E k fo h rel rm post
 refine wpAny_UnaryOp (wpAny_Constant_int (neg_int ?_))
 have e: -(Int.ofNat (m+1))=Int.negSucc m:=rfl
 rw[e]
 exact post (.neg m) s w _ _ _ h rel.toks (.refl _ _) (.neg m) (.int _ _)
def negK (v:AV) (k:Bool):Bool:=AV.rec (motive:=λU=>Bool) false (λU=>false) (λU=>false) (λn=>ite (Nat.beq n 0) k false) (λU U=>false) (λU U=>false) false (λU=>false) false (λU U=>false) (λU U=>false) (λU U=>false) (λU U=>false) (λU=>false) false (λU U U U=>false) (λU U U U U U=>false) v
theorem negK_true {v:AV} {k:Bool} (h:negK v k=true):v=.neg 0∧k=true:=by
 cases v with
 |neg n=>
  rcases ite_true (show ite (Nat.beq n 0) k false=true from h) with ⟨q,h⟩|⟨_,h⟩
  · exact ⟨by rw[Nat.eq_of_beq_eq_true q],h⟩
  · cases h
 |_=>exact fF h
theorem small_down {b:Nat} (h:b≤10000):Builtin.Range.small (b:Int) (-1) (-1)=true∧Builtin.Range.rangeSize (b:Int) (-1) (-1)=((b+1:Nat):Int):=by
 have e:Builtin.Range.rangeSize (b:Int) (-1) (-1)=((b+1:Nat):Int):=by
  unfold Builtin.Range.rangeSize
  rw[if_neg (by decide),if_pos (by omega)]
  have:(-(-1):Int)=1:=by decide
  rw[this,Int.ediv_one]
  omega
 refine ⟨?_,e⟩
 unfold Builtin.Range.small
 rw[e]
 simp only[Builtin.Range.rangeFitsLong,Bool.and_eq_true,Bool.or_eq_true,decide_eq_true_eq,beq_iff_eq,show ¬((-1:Int)>0) by decide,if_false]
 omega
set_option maxHeartbeats 1000000 in
theorem sound_rangeD {n:Str} {p pos q1 q2 p1 p2:Pos} {k1 k2:Nat} {e:Expr} {a:C} (hx:x.glob n=true) (hg:GlobV c n (.type "range")) (hd:(n==("__debug__":Str))=false) (H:SoundE c lvl x e a) (hp:plainArg e=true):
  SoundI c lvl x (.Call (.Name n p) [e,.UnaryOp .USub (.Constant (.int 1) k1 q1) p1,.UnaryOp .USub (.Constant (.int 1) k2 q2) p2] [] pos) (itD a):=by
 refine ⟨rfl,?_⟩
 intro f w s σ A Q E k fo h rel rm post
 have h:evL (.cons a (.cons (cst (.neg 0)) (.cons (cst (.neg 0)) .nil))) s (λvs s=>isCons vs λv t=>isCons t λu t=>isCons t λu' U=>negK u (negK u' (isNat v λb=>ok4 b (k (.fz (downN (Nat.succ b))) s))))=true:=h
 rw[arm_eval_Call_Name']
 refine wpAny_bind (load_glob fo rel hx hg hd ?_)
 refine call_bi (first:=[]) rfl (soundSp_cons hp H (soundSp_cons rfl (sound_minus (m:=0)) (soundSp_cons rfl (sound_minus (m:=0)) soundSp_nil))) (by rw[List.all_cons,hp];rfl) fo h rel rm ?_
 intro v s1 w1 σ1 ds vs e1 rel1 X1 C1 r1 ln
 obtain ⟨v',t,rfl,e2⟩:=isCons_true e1
 obtain ⟨u,t2,rfl,e3⟩:=isCons_true e2
 obtain ⟨u',t3,rfl,e4⟩:=isCons_true e3
 obtain ⟨rfl,e5⟩:=negK_true e4
 obtain ⟨rfl,e6⟩:=negK_true e5
 obtain ⟨b,rfl,e7⟩:=isNat_true e6
 obtain ⟨sz,e8⟩:=ok4_true e7
 cases C1 with
 |cons C1 C2=>
 cases C2 with
 |cons C2 C3=>
 cases C3 with
 |cons C3 C4=>
 cases C1 with
 |nat _=>
 cases C2 with
 |neg _=>
 cases C3 with
 |neg _=>
 cases r1 with
 |cons r1 r2=>
 cases r2 with
 |cons r2 r3=>
 cases r3 with
 |@cons _ _ _ vs r3 r4=>
 have:vs=[]:=by
  cases r4 with
  |nil=>rfl
  |cons _ _=>simp at ln
 subst this
 cases r1 with
 |int _ t=>
 cases r2 with
 |int _ t=>
 cases r3 with
 |int _ t=>
 obtain ⟨sm,rs⟩:=small_down sz
 refine call_range_3 (by decide) ?_ (.inl (PyProof.noPylong_small (by decide)))
 refine range_iter rel1 (tk:=σ1.toks) sm ?_ e8 ?_
 · show RngA _ _ (Builtin.Range.rangeSize (b:Int) (-1) (-1)) (-1)
   rw[rs]
   have:=rngA_down (b+1)
   have e:(((b+1:Nat):Int)-1)=(b:Int):=by omega
   rw[e] at this
   exact this
 · intro J it s' w' σ' hk rel' X' I hX hW i0
   exact post J it s' w' σ' hk rel' (X1.trans X') I hX hW (none_of X1 i0)
end
noncomputable def locN (x:Cx) (line:Nat) (e:Expr):Option Str:=onName e (λU=>none) λn pos=>if (x.scope.names.lookup n==some .local&&pos.line==line)=true then some n else none
noncomputable def tupQ (e:Expr):Option (List Expr):=onTup e (λU=>none) λl U U=>some l
noncomputable def lstQ (e:Expr):Bool:=onList e (λU=>false) λU U=>true
noncomputable def swapL (x:Cx) (ts vs:List Expr):Option (Option (List Str)):=
 if (!(ts.length==2||ts.length==3)||vs.length != ts.length)=true then some none
 else if vs.all plainArg=true then
  let ns:=ts.filterMap (locN x ((ts.head?.map (·.pos.line)).getD 0))
  if (ns.length != ts.length||ns.eraseDups.length != ns.length)=true then some none else if vs.all (foldedForSure 8)=true then some none else if vs.all (constantsAlone 8)=true then none else some (some ns)
 else none
noncomputable def swapN (x:Cx) (t e:Expr):Option (Option (List Str)):=
 (tupQ e).elim (some none) λvs=>if lstQ t=true then none else (tupQ t).elim (some none) λts=>swapL x ts vs
section
variable {c:Cf} {lvl:Nat} {x:Cx}
theorem cur_kinds {f:Fm} (hx:x.comp=none) (fo:FrOK x f):(∀n,(f.cur.kindOf n==some .local)=(x.scope.names.lookup n==some .local))∧f.cur.blockKind=.function:=by
 obtain ⟨fc,fcur⟩:=fo.cur_none hx
 rw[fcur]
 refine ⟨λn=>by unfold Env.kindOf;rw[fo.scope],?_⟩
 have bk:(f.env.blockKind==ScopeKind.function)=true:=by
  unfold Env.blockKind
  rw[fo.scope,fo.kind];rfl
 exact eq_of_beq bk
theorem noStar {f:Expr->Bool} {vs:List Expr} (k:∀e,plainArg e=true->f e=false) (h:vs.all plainArg=true):vs.any f=false:=by
 rw[List.any_eq_false]
 exact λe he=>by rw[k e (List.all_eq_true.mp h e he)];exact Bool.false_ne_true
theorem tupQ_some {e:Expr} {ts:List Expr} (h:tupQ e=some ts):∃k p,e=.Tuple ts k p:=by
 cases e with
 |Tuple ts k p=>cases h;exact ⟨k,p,rfl⟩
 |_=>cases h
theorem sw_noneT {t e:Expr} {env:Env} (h:tupQ t=none) (b:lstQ t=false):swappedStores [t] e env=pure none:=by
 cases t with
 |Tuple=>cases h
 |List=>cases b
 |_=>rfl
theorem sw_noneE {t e:Expr} {env:Env} (h:tupQ e=none):swappedStores [t] e env=pure none:=by
 cases t with
 |Tuple=>cases e with
  |Tuple=>cases h
  |_=>rfl
 |List=>cases e with
  |Tuple=>cases h
  |_=>rfl
 |_=>rfl
set_option tactic.hygienic true in
theorem swap_names {t e:Expr} {f:Fm} {r:Option (List Str)} (hx:x.comp=none) (fo:FrOK x f) (h:swapN x t e=some r):swappedStores [t] e f.cur=pure r:=by
 obtain ⟨key,bk⟩:=cur_kinds hx fo
 unfold swapN at h
 cases he:tupQ e with
 |none=>rw[he] at h;cases h;exact sw_noneE he
 |some vs=>
  rw[he] at h
  change (if lstQ t=true then none else (tupQ t).elim (some none) λts=>swapL x ts vs)=some r at h
  cases hl:lstQ t with
  |true=>rw[hl] at h;cases h
  |false=>
   rw[hl] at h
   cases ht:tupQ t with
   |none=>rw[ht] at h;cases h;exact sw_noneT ht hl
   |some ts=>
    rw[ht] at h
    change swapL x ts vs=some r at h
    obtain ⟨k,p,rfl⟩:=tupQ_some ht
    obtain ⟨k',p',rfl⟩:=tupQ_some he
    clear he hl ht
    unfold swappedStores
    dsimp only
    rw[bk]
    unfold swapL at h
    by_cases q1:(!(ts.length==2||ts.length==3)||vs.length != ts.length)=true
    · rw[if_pos q1] at h;cases h
      rw[if_pos (by rw[q1];rfl)]
    · rw[if_neg q1] at h
      rw[if_neg (by simp only[Bool.not_eq_true] at q1;rw[q1];decide)]
      by_cases hp:vs.all plainArg=true
      · rw[if_pos hp] at h
        refine Eq.trans (if_neg (λhc=>absurd (hc.symm.trans (noStar (λe h=>by cases e<;>first|rfl|exact fF h) hp)) (by decide))) ?_
        have hF:∀g:Expr->Option Str,(∀e,g e=locN x ((ts.head?.map (·.pos.line)).getD 0) e)->List.filterMap g ts=ts.filterMap (locN x ((ts.head?.map (·.pos.line)).getD 0)):=λg k=>by rw[funext k]
        rewrite [hF _ λe=>?hg]
        case hg=>cases e with
         |Name n pos=>show (if _ then _ else _)=(if _ then _ else _);rw[key]
         |_=>rfl
        generalize List.filterMap _ ts=fs at h ⊢
        dsimp only at h
        by_cases q2:(fs.length != ts.length||fs.eraseDups.length != fs.length)=true
        · rw[if_pos q2] at h ⊢;cases h;rfl
        · rw[if_neg q2] at h ⊢
          by_cases q3:vs.all (foldedForSure 8)=true
          · rw[if_pos q3] at h ⊢;cases h;rfl
          · rw[if_neg q3] at h ⊢
            by_cases q4:vs.all (constantsAlone 8)=true
            · rw[if_pos q4] at h;cases h
            · rw[if_neg q4] at h ⊢;cases h;rfl
      · rw[if_neg hp] at h;cases h
end
def alOf:List Str->AL
 |[]=>.nil
 |n::ns=>.cons (tVar (sc n)) (alOf ns)
theorem evT_len:∀{ns:List Str} {v:AV} {s:St} {k:St->Bool},evT (alOf ns) v s k=true->lenA v=ns.length
 |[],v,s,k,h=>by obtain ⟨rfl,_⟩:=isNil_true (show isNil v (k s)=true from h);rfl
 |n::ns,v,s,k,h=>by
  obtain ⟨v1,v2,rfl,h2⟩:=isCons_true (show isCons v (λv vs=>tVar (sc n) v s λs=>evT (alOf ns) vs s k)=true from h)
  have h3:evT (alOf ns) v2 ⟨VL.set (sc n) v1 s.vars,s.cvars,s.hp,s.nx,s.bd⟩ k=true:=h2
  show lenA v2+1=_
  rw[evT_len h3];rfl
section
variable {c:Cf} {lvl:Nat} {x:Cx}
theorem plain_one {t:Expr} {env:Env} (h:plainArg t=true):(assignEach [t] env).map (·.2)=[assign t env]:=by rw[assignEach_cons h];rfl
theorem asg_open {M:Model} {A:Around} {E:Value->Shared->Prop} {σ:Shared} {Q:Flow->Shared->Prop} {t e:Expr} {pos:Pos} {env:Env} (h:wpAny M A (do
  standAt pos
  if ←swapsWithSole [t] e pos.line env then do
   evalThenUse e env λv=>assignAll v ((assignEach [t] env).map (·.2))
   pure .next
  else do
   let v ←eval e env
   assignStores env v (← swappedStores [t] e env) ((assignEach [t] env).map (·.2))) Q E σ):wpAny M A (exec (.Assign [t] e pos) env) Q E σ:=h
theorem sound_asgT {t e:Expr} {a:A} {b:C} {pos:Pos} (hx:x.comp=none) (hp:plainArg t=true) (hn:swapN x t e=some none) (T:SoundA c lvl x t a) (H:SoundE c lvl x e b) (hs:swapStat x e t=false):SoundX c lvl x (.Assign [t] e pos) (asg a b):=by
 intro f w s σ A Q E n r k fo h rel rm pn pr pk
 refine asg_open ?_
 refine wpAny_bind (wpAny_standAt (wpAny_bind (wpAny_of_eq (show swapsWithSole [t] e pos.line f.cur=pure false by rw[← hs];exact swap_stat hx fo) ?_)))
 refine ifn Bool.false_ne_true ?_
 refine wpAny_bind (H f w s σ A _ E _ fo h rel rm ?_)
 intro v s1 w1 σ1 d rv e1 rel1 X1 C1 r1
 refine wpAny_bind (wpAny_of_eq (swap_names hx fo hn) ?_)
 rw[plain_one hp]
 show wpAny _ A (do assignAll rv [assign t f.cur];pure .next) Q E σ1
 refine wpAny_bind (T f w1 s1 σ1 A _ E n v d rv fo e1 rel1 rm C1 r1 ?_)
 exact λs2 w2 σ2 e2 rel2 X2=>wpAny_pure (pn s2 w2 σ2 e2 rel2 (X1.trans X2))
set_option tactic.hygienic true in
theorem names_assign (hx:x.comp=none):∀ns:List Str,(∀n∈ns,okS n=true∧x.scope.names.lookup n=some .local)->∀f w s σ A (Q:Unit->Shared->Prop) E k v ds rvs,FrOK x f->evT (alOf ns) v s k=true->Rel c f w s σ->Room A lvl->ConcL c.ρ v ds->RdL c.wo.params w σ.heap ds rvs->PostU c f w σ.heap k (Q ())->
  wpAny (model c.prog c.wo) A (assignInOrder (ns.map λn=>bindName f.cur n) rvs) Q E σ
 |[],_=>by
  intro f w s σ A Q E k v ds rvs fo h rel rm C r post
  obtain ⟨rfl,h⟩:=isNil_true (show isNil v (k s)=true from h)
  cases C
  cases r
  exact wpAny_pure (post.now h rel)
 |n::ns,hh=>by
  intro f w s σ A Q E k v ds rvs fo h rel rm C r post
  obtain ⟨v1,v2,rfl,h⟩:=isCons_true (show isCons v (λv vs=>tVar (sc n) v s λs=>evT (alOf ns) vs s k)=true from h)
  obtain ⟨ho,hk⟩:=hh n List.mem_cons_self
  obtain ⟨fc,fcur⟩:=fo.cur_none hx
  cases C with
  |cons C1 C2=>
  cases r with
  |cons r1 r2=>
  rename_i rv rvs
  show wpAny _ A (do holding rvs (bindName f.cur n rv);assignInOrder (ns.map λn=>bindName f.cur n) rvs) Q E σ
  refine wpAny_bind (wpAny_holding ?_)
  unfold bindName
  refine wpAny_bind (wpAny_holding (wpAny_point ?_))
  rw[fcur]
  refine wpAny_bind (store_name rel fc (by rw[fo.scope];exact fo.kind) (.inl (by unfold Env.kindOf;rw[fo.scope];exact hk)) ho C1 r1 λσ' R' X'=>wpAny_point ?_)
  have:=names_assign hx ns (λm hm=>hh m (List.mem_cons_of_mem _ hm)) f w _ σ' A Q E k v2 _ rvs fo h R' rm C2 (r2.ext X') (post.ext X')
  rw[fcur] at this
  exact this
theorem locN_local {line:Nat} {e:Expr} {n:Str} (h:locN x line e=some n):x.scope.names.lookup n=some .local:=by
 cases e with
 |Name m pos=>
  change (if _ then some m else none)=some n at h
  by_cases q:(x.scope.names.lookup m==some .local&&pos.line==line)=true
  · rw[if_pos q] at h;cases h;exact eq_of_beq (Bool.and_eq_true_iff.mp q).1
  · rw[if_neg q] at h;cases h
 |_=>cases h
theorem sizesOf {a b:Nat} (h:(!(a==2||a==3)||b != a)=false):b=a∧a≤3:=by
 simp at h
 omega
theorem swapN_mem {t e:Expr} {ns:List Str} (h:swapN x t e=some (some ns)):(∀n∈ns,x.scope.names.lookup n=some .local)∧∃ts k p vs m q,t=.Tuple ts k p∧e=.Tuple vs m q∧ns.length=vs.length∧vs.all plainArg=true∧vs.length≤3:=by
 unfold swapN at h
 cases he:tupQ e with
 |none=>rw[he] at h;cases h
 |some vs=>
  rw[he] at h
  change (if lstQ t=true then none else (tupQ t).elim (some none) λts=>swapL x ts vs)=some (some ns) at h
  cases hl:lstQ t with
  |true=>rw[hl] at h;cases h
  |false=>
   rw[hl] at h
   cases ht:tupQ t with
   |none=>rw[ht] at h;cases h
   |some ts=>
    rw[ht] at h
    change swapL x ts vs=some (some ns) at h
    obtain ⟨k,p,rfl⟩:=tupQ_some ht
    obtain ⟨k',p',rfl⟩:=tupQ_some he
    clear he hl ht
    unfold swapL at h
    by_cases q1:(!(ts.length==2||ts.length==3)||vs.length != ts.length)=true
    · rw[if_pos q1] at h;cases h
    · rw[if_neg q1] at h
      have l:=sizesOf (Bool.not_eq_true _▸q1)
      by_cases hp:vs.all plainArg=true
      · rw[if_pos hp] at h
        dsimp only at h
        generalize hF:List.filterMap _ ts=fs at h
        by_cases q2:(fs.length != ts.length||fs.eraseDups.length != fs.length)=true
        · rw[if_pos q2] at h;cases h
        · rw[if_neg q2] at h
          by_cases q3:vs.all (foldedForSure 8)=true
          · rw[if_pos q3] at h;cases h
          · rw[if_neg q3] at h
            by_cases q4:vs.all (constantsAlone 8)=true
            · rw[if_pos q4] at h;cases h
            · rw[if_neg q4] at h
              cases h
              have lF:ns.length=ts.length:=by
               simp at q2
               exact q2.1
              refine ⟨λn hn=>?_,ts,k,p,vs,k',p',rfl,rfl,lF.trans l.1.symm,hp,l.1▸l.2⟩
              rw[← hF] at hn
              obtain ⟨e,_,he⟩:=List.mem_filterMap.mp hn
              exact locN_local he
      · rw[if_neg hp] at h;cases h
theorem sound_asgR {ts vs:List Expr} {k m:Nat} {p q pos:Pos} {ns:List Str} {l:CL} (hx:x.comp=none) (hn:swapN x (.Tuple ts k p) (.Tuple vs m q)=some (some ns)) (ho:ns.all okS=true) (L:SoundSp c lvl x vs l):
  SoundX c lvl x (.Assign [.Tuple ts k p] (.Tuple vs m q) pos) (asgR (alOf ns.reverse) l):=by
 intro f w s σ A Q E n r kk fo h rel rm pn pr pk
 obtain ⟨hmem,ts',k',p',vs',m',q',e1,e2,hlen,hp,h3⟩:=swapN_mem hn
 cases e1
 cases e2
 refine asg_open ?_
 refine wpAny_bind (wpAny_standAt (wpAny_bind (wpAny_of_eq (show swapsWithSole [.Tuple ts k p] (.Tuple vs m q) pos.line f.cur=pure false from rfl) ?_)))
 refine ifn Bool.false_ne_true ?_
 have h:tupE l s (λv s=>isTup v λvs=>evT (alOf ns.reverse) (revA vs) s n)=true:=h
 refine wpAny_bind ((sound_tup L (by omega)) f w s σ A _ E _ fo h rel rm ?_)
 intro v s1 w1 σ1 d rv e1 rel1 X1 C1 r1
 obtain ⟨us,rfl,e1⟩:=isTup_true e1
 refine wpAny_bind (wpAny_of_eq (swap_names hx fo hn) ?_)
 cases C1 with
 |tup C1=>
 cases r1 with
 |@tup t ot items tn _ hot hct hdt nx rs=>
 show wpAny _ A (do
  rule "assign.swapped-stores"
  let items ←unpackItems (.ref t) ns.length none
  assignInOrder (ns.reverse.map λn=>bindName f.cur n) items.reverse
  pure .next) Q E σ1
 refine wpAny_bind (wpAny_rule ?_)
 have lz:ns.length=items.size:=by
  have l1:=evT_len e1
  rw[lenA_conc (revA_conc C1),List.length_reverse,List.length_reverse] at l1
  have l2:=rs.length
  simp at l2
  omega
 rw[lz]
 refine wpAny_bind (wpAny_unpackItems_tuple rm.handled ⟨_,hot,hct,_,hdt⟩ λh' hxb=>?_)
 have kp:∀a o,σ1.heap.get? a=some o->h'.get? a=some o:=λa o e=>hxb a o (Nat.ne_of_lt (Heap.lt_size e)) e
 refine wpAny_bind (names_assign hx ns.reverse (λn hn=>?_) f w1 s1 _ A _ E n _ _ _ fo e1 (rel1.grow (tk:=σ1.toks) kp) rm (revA_conc C1) ((rs.ext (.grow kp)).reverse) ?_)
 · have hn:=List.mem_reverse.mp hn
   exact ⟨List.all_eq_true.mp ho n hn,hmem n hn⟩
 · intro s2 w2 σ2 e2 rel2 X2
   exact wpAny_pure (pn s2 w2 σ2 e2 rel2 (X1.trans ((Ext.grow kp).trans X2)))
theorem sound_cmp2 {o1 o2:CmpOp} {g1 g2:Cm} {l m r:Expr} {a b d:C} {pos:Pos} (G1:SoundC c o1 g1) (G2:SoundC c o2 g2) (L:SoundE c lvl x l a) (M:SoundE c lvl x m b) (R:SoundE c lvl x r d) (hm:behindInMarks o2 r=false):SoundT c lvl x (.Compare l [o1,o2] [m,r] pos) (cmp2 g1 g2 a b d):=by
 intro f w s σ A Q E t u fo h rel rm pt pu
 show wpAny _ A (do testChain pos (← eval l f.cur) [o1,o2] (markedEach [o1,o2] [m,r] (evalEach [m,r] f.cur))) Q E σ
 rw[markedEach_of_false _ _ _ (show lastMarks [o1,o2] [m,r]=false from hm)]
 refine wpAny_bind (L f w s σ A _ E _ fo h rel rm ?_)
 intro v s1 w1 σ1 d1 rv1 e1 rel1 X1 C1 r1
 show wpAny _ A (do
  let rv ←holding [rv1] (eval m f.cur)
  standAt pos
  let c ←holding [rv1,rv] (compareOp o1 rv1 rv)
  release [rv1,rv] [c]
  if ←holding [c,rv] (PySem.truthy c) then testChain pos rv [o2] [eval r f.cur] else pure false) Q E σ1
 refine wpAny_bind (wpAny_holding (M f w1 s1 σ1 A _ E _ fo e1 rel1 rm ?_))
 intro v2 s2 w2 σ2 d2 rv2 e2 rel2 X2 C2 r2
 refine wpAny_bind (wpAny_standAt (wpAny_bind (wpAny_holding ?_)))
 refine G1 f w2 s2 σ2 A _ E v v2 d1 d2 rv1 rv2 _ _ e2 rel2 (rm.down (Nat.zero_le _)) C1 C2 (r1.ext X2) r2 ?_ ?_
 · intro et tk
   refine wpAny_bind (wpAny_release (wpAny_bind (wpAny_holding (wpAny_truthy_bool ?_))))
   refine ifp (by rfl) ?_
   show wpAny _ A (do
    let rv ←holding [rv2] (eval r f.cur)
    standAt pos
    let c ←operate [rv2,rv] (compareOp o2 rv2 rv)
    holding [c] (PySem.truthy c)) Q E _
   refine wpAny_bind (wpAny_holding (R f w2 s2 {σ2 with toks:=tk} A _ E _ fo et rel2.toks rm ?_))
   intro v3 s3 w3 σ3 d3 rv3 e3 rel3 X3 C3 r3
   refine wpAny_bind (wpAny_standAt (wpAny_bind (wpAny_operate' ?_)))
   refine G2 f w3 s3 σ3 A _ E v2 v3 d2 d3 rv2 rv3 _ _ e3 rel3 (rm.down (Nat.zero_le _)) C2 C3 (r2.ext X3) r3 ?_ ?_
   · intro et tk
     exact wpAny_holding (wpAny_truthy_bool ((pt.ext (X1.trans (X2.trans X3))).tk et rel3 tk))
   · intro et tk
     exact wpAny_holding (wpAny_truthy_bool ((pu.ext (X1.trans (X2.trans X3))).tk et rel3 tk))
 · intro et tk
   refine wpAny_bind (wpAny_release (wpAny_bind (wpAny_holding (wpAny_truthy_bool ?_))))
   refine ifn Bool.false_ne_true ?_
   exact wpAny_pure ((pu.ext (X1.trans X2)).tk et rel2 tk)
end
abbrev RE (c:Cf) (lvl:Nat) (x:Cx) (e:Expr):=Option {a:C // SoundE c lvl x e a}
abbrev RT (c:Cf) (lvl:Nat) (x:Cx) (e:Expr):=Option {a:T // SoundT c lvl x e a}
abbrev RA (c:Cf) (lvl:Nat) (x:Cx) (e:Expr):=Option {a:A // SoundA c lvl x e a}
abbrev RI (c:Cf) (lvl:Nat) (x:Cx) (e:Expr):=Option {a:I // SoundI c lvl x e a}
abbrev RS (c:Cf) (lvl:Nat) (x:Cx) (ss:List Stmt):={a:S // SoundS c lvl x ss a}
abbrev RX (c:Cf) (lvl:Nat) (x:Cx) (st:Stmt):=Option {a:S // SoundX c lvl x st a}
structure Mk (c:Cf) (lvl:Nat) where
 E:∀x e,RE c lvl x e
 T:∀x e,RT c lvl x e
 A:∀x e,RA c lvl x e
 I:∀x e,RI c lvl x e
 S:∀x ss,RS c lvl x ss
structure Tab (c:Cf) (lvl:Nat) where
 ok:CfOK c
 cst:∀n:Str,Option {v:AV // ∃rv d,GlobV c n rv∧Conc c.ρ v d∧Rd c.wo.params w0 c.base d rv}
 fn:∀n:Str,Option {F:F // ∃a,GlobV c n (.ref a)∧keepIn c.K (.ref a)=true∧SoundFn c lvl a F}
 kls:∀n:Str,Option {q:Nat×F // ∃fI m,GlobV c n (.ref (c.cls q.1))∧KlsAt c q.1 fI∧SoundFn c m fI q.2∧m+1≤lvl}
 ms:∀n:Str,Option {ml:ML // MsAt c lvl n ml}
 att:∀n:Str,Option (PLift (n∈c.att))
 atk:∀n:Str,Option {q:Nat // findIn c.K (.ref (c.cls q)) n=some none}
 g_sorted:GlobV c "sorted" (.builtin "sorted")
 g_len:GlobV c "len" (.builtin "len")
 g_min:GlobV c "min" (.builtin "min")
 g_max:GlobV c "max" (.builtin "max")
 g_any:GlobV c "any" (.builtin "any")
 g_isinstance:GlobV c "isinstance" (.builtin "isinstance")
 g_dict:GlobV c "dict" (.type "dict")
 g_list:GlobV c "list" (.type "list")
 g_tuple:GlobV c "tuple" (.type "tuple")
 g_int:GlobV c "int" (.type "int")
 g_bytes:GlobV c "bytes" (.type "bytes")
 g_range:GlobV c "range" (.type "range")
section
variable {c:Cf} {lvl:Nat}
theorem sound_badS {x:Cx} {ss:List Stmt}:SoundS c lvl x ss badS:=by
 intro f w s σ A Q E n r t fo h
 exact fF h
theorem sound_badX {x:Cx} {st:Stmt}:SoundX c lvl x st badS:=by
 intro f w s σ A Q E n r t fo h
 exact fF h
theorem sound_ret0 {x:Cx} {pos:Pos}:SoundX c lvl x (.Return none pos) (retS (cst .none)):=by
 intro f w s σ A Q E n r t fo h rel rm pn pr pt
 show wpAny _ A (do standAt pos;return .ret .none) Q E σ
 exact wpAny_bind (wpAny_standAt (wpAny_pure (pr .none s w σ .none .none h rel (.refl _ _) .none .none)))
theorem sound_badC {x:Cx} {e:Expr}:SoundE c lvl x e badC:=by
 intro f w s σ A Q E k fo h
 exact fF h
noncomputable def orBadE {x:Cx} {e:Expr} (r:RE c lvl x e):{a:C // SoundE c lvl x e a}:=match r with|some a=>a|none=>⟨badC,sound_badC⟩
noncomputable def badT:T:=λU U U=>false
theorem sound_badT {x:Cx} {e:Expr}:SoundT c lvl x e badT:=by
 intro f w s σ A Q E t u fo h
 exact fF h
noncomputable def orBadT {x:Cx} {e:Expr} (r:RT c lvl x e):{a:T // SoundT c lvl x e a}:=match r with|some a=>a|none=>⟨badT,sound_badT⟩
theorem sound_isNV {x:Cx} {e:Expr} {a:C} {k:Nat} {p pos:Pos} (H:SoundE c lvl x e a):SoundE c lvl x (.Compare e [.Is] [.Constant .none k p] pos) (ofT (isN a)):=by
 intro f w s σ A Q E kk fo h rel rm post
 have h:a s (λv s=>isNonT v (kk (.bool true) s) (kk (.bool false) s))=true:=h
 refine wpAny_Compare1 (H f w s σ A _ E _ fo h rel rm ?_) rfl
 intro v s1 w1 σ1 d rv e1 rel1 X1 C1 r1
 refine wpAny_Constant_none ?_
 refine wpAny_is_plain ?_ ?_
 · cases r1<;>rfl
 · have dd:=isNonT_dec e1 C1 r1
   cases q:(rv==Value.none) with
   |true=>exact post (.bool true) s1 w1 σ1 _ _ (dd.1 q) rel1 X1 (.bool true) (.bool true)
   |false=>exact post (.bool false) s1 w1 σ1 _ _ (dd.2 (fne q)) rel1 X1 (.bool false) (.bool false)
theorem sound_isNotV {x:Cx} {e:Expr} {a:C} {k:Nat} {p pos:Pos} (H:SoundE c lvl x e a):SoundE c lvl x (.Compare e [.IsNot] [.Constant .none k p] pos) (ofT (noT (isN a))):=by
 intro f w s σ A Q E kk fo h rel rm post
 have h:a s (λv s=>isNonT v (kk (.bool false) s) (kk (.bool true) s))=true:=h
 refine wpAny_Compare1 (H f w s σ A _ E _ fo h rel rm ?_) rfl
 intro v s1 w1 σ1 d rv e1 rel1 X1 C1 r1
 refine wpAny_Constant_none ?_
 refine wpAny_isNot_plain ?_ ?_
 · cases r1<;>rfl
 · have dd:=isNonT_dec e1 C1 r1
   cases q:(rv==Value.none) with
   |true=>exact post (.bool false) s1 w1 σ1 _ _ (dd.1 q) rel1 X1 (.bool false) (.bool false)
   |false=>exact post (.bool true) s1 w1 σ1 _ _ (dd.2 (fne q)) rel1 X1 (.bool true) (.bool true)
noncomputable def listC (m:Mk c lvl) (x:Cx):∀es,Option {l:CL // SoundSp c lvl x es l∧es.all plainArg=true}
 |[]=>some ⟨.nil,soundSp_nil,rfl⟩
 |e::es=>(m.E x e).bind λa=>(listC m x es).bind λl=>if hp:plainArg e=true then some ⟨.cons a.1 l.1,soundSp_cons hp a.2 l.2.1,by rw[List.all_cons,hp,l.2.2];rfl⟩ else none
noncomputable def pairsC (m:Mk c lvl) (x:Cx):∀ks vs,Option {l:DL // SoundPr c lvl x ks vs l}
 |[],[]=>some ⟨.nil,soundPr_nil⟩
 |some k::ks,v::vs=>(m.E x k).bind λa=>(m.E x v).bind λb=>(pairsC m x ks vs).bind λl=>some ⟨.cons a.1 b.1 l.1,soundPr_cons a.2 b.2 l.2⟩
 |_,_=>none
noncomputable def tgtsC (m:Mk c lvl) (x:Cx):∀es,Option {l:AL // SoundAs c lvl x es l}
 |[]=>some ⟨.nil,soundAs_nil⟩
 |e::es=>(m.A x e).bind λa=>(tgtsC m x es).bind λl=>if hp:plainArg e=true then some ⟨.cons a.1 l.1,soundAs_cons hp a.2 l.2⟩ else none
noncomputable def andC (m:Mk c lvl) (x:Cx):∀es,Option {t:T // SoundL c .And lvl x es t}
 |[]=>none
 |[e]=>let a:=orBadT (m.T x e);some ⟨a.1,soundL_one a.2⟩
 |e::es=>let a:=orBadT (m.T x e);(andC m x es).bind λb=>some ⟨anT a.1 b.1,soundL_and a.2 b.2⟩
noncomputable def orTC (m:Mk c lvl) (x:Cx):∀es,Option {t:T // SoundL c .Or lvl x es t}
 |[]=>none
 |[e]=>let a:=orBadT (m.T x e);some ⟨a.1,soundL_one a.2⟩
 |e::es=>let a:=orBadT (m.T x e);(orTC m x es).bind λb=>some ⟨orT a.1 b.1,soundL_or a.2 b.2⟩
def andV (m:Mk c lvl) (x:Cx):∀es,Option {t:C // SoundBV c .And lvl x es t}
 |[]=>none
 |[e]=>let a:=orBadE (m.E x e);some ⟨a.1,soundBV_one a.2⟩
 |e::e'::es=>let a:=orBadE (m.E x e);(andV m x (e'::es)).bind λb=>some ⟨anC a.1 b.1,soundBV_and a.2 b.2⟩
def orV (m:Mk c lvl) (x:Cx):∀es,Option {t:C // SoundBV c .Or lvl x es t}
 |[]=>none
 |[e]=>let a:=orBadE (m.E x e);some ⟨a.1,soundBV_one a.2⟩
 |e::e'::es=>let a:=orBadE (m.E x e);(orV m x (e'::es)).bind λb=>some ⟨orC a.1 b.1,soundBV_or a.2 b.2⟩
def cmpC (op:CmpOp):Option {g:Cm // SoundC c op g}:=by
 cases op with
 |Eq=>exact some ⟨cEq,soundC_eq⟩
 |NotEq=>exact some ⟨cNe,soundC_ne⟩
 |Lt=>exact some ⟨cLt,soundC_lt⟩
 |LtE=>exact some ⟨cLe,soundC_le⟩
 |Gt=>exact some ⟨cGt,soundC_gt⟩
 |GtE=>exact some ⟨cGe,soundC_ge⟩
 |In=>exact some ⟨cIn,soundC_in⟩
 |NotIn=>exact some ⟨cNi,soundC_ni⟩
 |_=>exact none
def opC (op:Operator):Option {g:Op // SoundB c op g}:=by
 cases op with
 |Add=>exact some ⟨oAdd,soundB_add⟩
 |Sub=>exact some ⟨oSub,soundB_sub⟩
 |Mult=>exact some ⟨oMul,soundB_mul⟩
 |Mod=>exact some ⟨oMod,soundB_mod⟩
 |FloorDiv=>exact some ⟨oDiv,soundB_div⟩
 |LShift=>exact some ⟨oShl,soundB_shl⟩
 |RShift=>exact some ⟨oShr,soundB_shr⟩
 |Pow=>exact some ⟨oPow,soundB_pow⟩
 |BitOr=>exact some ⟨oOr,soundB_or⟩
 |BitAnd=>exact some ⟨oAnd,soundB_and⟩
 |_=>exact none
def IsNone (e:Expr):Prop:=∃k p,e=.Constant .none k p
def noneQ (e:Expr):Option (PLift (IsNone e)):=onConst e (λU=>none) λq k p=>by
 cases q with
 |none=>exact some ⟨k,p,rfl⟩
 |_=>exact none
section
variable {α β:Type}
def oneQ (l:List α) (d:Option β) (k:∀a,l=[a]->Option β):Option β:=by
 cases l with
 |nil=>exact d
 |cons a l=>cases l with
  |nil=>exact k a rfl
  |cons b l=>exact d
def twoQ (l:List α) (k:∀a b,l=[a,b]->Option β):Option β:=by
 cases l with
 |nil=>exact none
 |cons a l=>exact oneQ l none λb h=>k a b (congrArg (a::·) h)
def threeQ (l:List α) (k:∀a b c,l=[a,b,c]->Option β):Option β:=by
 cases l with
 |nil=>exact none
 |cons a l=>exact twoQ l λb c h=>k a b c (congrArg (a::·) h)
def someQ (o:Option α):Option {a // o=some a}:=by
 cases o with
 |none=>exact none
 |some a=>exact some ⟨a,rfl⟩
def genQ (gs:List Comprehension) (k:∀t i f,gs=[⟨t,i,f,0⟩]->Option β):Option β:=
 oneQ gs none λg e=>by
  obtain ⟨t,i,f,j⟩:=g
  exact if h:j=0 then k t i f (h▸e) else none
end
def isC (op:CmpOp):Option {b:Bool // op=cond b .Is .IsNot}:=if h:op=.Is then some ⟨true,h⟩ else if h:op=.IsNot then some ⟨false,h⟩ else none
theorem is_sound {x:Cx} {l:Expr} {pos:Pos} {op:CmpOp} {r:Expr} {b:Bool} (h3:op=cond b .Is .IsNot) (h4:IsNone r) {a:C} (H:SoundE c lvl x l a):
  SoundT c lvl x (.Compare l [op] [r] pos) (cond b (isN a) (noT (isN a)))∧SoundE c lvl x (.Compare l [op] [r] pos) (ofT (cond b (isN a) (noT (isN a)))):=by
 subst h3
 obtain ⟨k,p,rfl⟩:=h4
 cases b
 · exact ⟨sound_isNot H,sound_isNotV H⟩
 · exact ⟨sound_isN H,sound_isNV H⟩
def SoundCp (c:Cf) (lvl:Nat) (x:Cx) (l:Expr) (ops:List CmpOp) (rs:List Expr) (pos:Pos) (t:T):Prop:=SoundT c lvl x (.Compare l ops rs pos) t∧SoundE c lvl x (.Compare l ops rs pos) (ofT t)
theorem SoundCp.of {x:Cx} {l:Expr} {ops os:List CmpOp} {rs ss:List Expr} {pos:Pos} {t:T} (h1:ops=os) (h2:rs=ss) (h:SoundCp c lvl x l os ss pos t):SoundCp c lvl x l ops rs pos t:=h1▸h2▸h
def cmpT (m:Mk c lvl) (x:Cx) (l:Expr) (ops:List CmpOp) (rs:List Expr) (pos:Pos):Option {t:T // SoundCp c lvl x l ops rs pos t}:=
 oneQ ops none λop h1=>oneQ rs none λr h2=>(m.E x l).bind λa=>(cmpC op).elim ((isC op).bind λi=>(noneQ r).bind λh=>some ⟨_,.of h1 h2 (is_sound i.2 h.down a.2)⟩)
  λg=>(m.E x r).bind λb=>if hm:behindInMarks op r=false then some ⟨cmp g.1 a.1 b.1,.of h1 h2 ⟨sound_cmp g.2 a.2 b.2 hm,sound_cmpV g.2 a.2 b.2 hm⟩⟩ else none
def cmpE (m:Mk c lvl) (x:Cx) (l:Expr) (ops:List CmpOp) (rs:List Expr) (pos:Pos):RT c lvl x (.Compare l ops rs pos):=
 ((cmpT m x l ops rs pos).bind λt=>some ⟨t.1,t.2.1⟩).or (twoQ ops λo1 o2 h1=>twoQ rs λq r h2=>(cmpC o1).bind λg1=>(cmpC o2).bind λg2=>(m.E x l).bind λa=>(m.E x q).bind λb=>(m.E x r).bind λd=>if hm:behindInMarks o2 r=false then some ⟨cmp2 g1.1 g2.1 a.1 b.1 d.1,by rw[h1,h2];exact sound_cmp2 g1.2 g2.2 a.2 b.2 d.2 hm⟩ else none)
def nameC (tb:Tab c lvl) (x:Cx) (n:Str) (pos:Pos):RE c lvl x (.Name n pos):=
 if hd:(n==("__debug__":Str))=false then
  if hs:okS n=true then
   if hx:x.glob n=true then (tb.cst n).bind λv=>some ⟨cst v.1,by obtain ⟨rv,d,h1,h2,h3⟩:=v.2;exact sound_globC hx h1 hd h2 h3⟩
   else match hc:x.comp with
    |none=>some ⟨var (sc n),sound_var hc hs hd⟩
    |some s'=>
     if h1:s'.names.lookup n=some .local then some ⟨cvar (sc n),sound_cvar hc hs hd⟩
     else if h2:s'.names.lookup n=some .free then if h3:x.scope.names.lookup n=some .cell then some ⟨var (sc n),sound_varC hc h2 h3 hs hd⟩ else none
     else none
  else none
 else none
end
section
variable {c:Cf} {lvl:Nat}
def bi1 (tb:Tab c lvl) (n:Str):Option {q:Value×(AV->St->K AV->Bool) // GlobV c n q.1∧isBi q.1=true∧SoundV1 c q.1 q.2}:=
 if h:n="sorted" then some ⟨(.builtin "sorted",bSorted),by subst h;exact ⟨tb.g_sorted,rfl,soundV_sorted⟩⟩
 else if h:n="len" then some ⟨(.builtin "len",bLen),by subst h;exact ⟨tb.g_len,rfl,soundV_len⟩⟩
 else if h:n="any" then some ⟨(.builtin "any",bAny),by subst h;exact ⟨tb.g_any,rfl,soundV_any⟩⟩
 else if h:n="dict" then some ⟨(.type "dict",bDict),by subst h;exact ⟨tb.g_dict,rfl,soundV_dict tb.ok⟩⟩
 else if h:n="list" then some ⟨(.type "list",bList),by subst h;exact ⟨tb.g_list,rfl,soundV_list⟩⟩
 else if h:n="tuple" then some ⟨(.type "tuple",bTuple),by subst h;exact ⟨tb.g_tuple,rfl,soundV_tuple⟩⟩
 else if h:n="int" then some ⟨(.type "int",bInt),by subst h;exact ⟨tb.g_int,rfl,soundV_int⟩⟩
 else if h:n="bytes" then some ⟨(.type "bytes",bBytes),by subst h;exact ⟨tb.g_bytes,rfl,soundV_bytes⟩⟩
 else none
def bi2 (tb:Tab c lvl) (n:Str):Option {q:Value×Op // GlobV c n q.1∧isBi q.1=true∧SoundV2 c q.1 q.2}:=
 if h:n="min" then some ⟨(.builtin "min",bMin),by subst h;exact ⟨tb.g_min,rfl,soundV_min⟩⟩
 else if h:n="max" then some ⟨(.builtin "max",bMax),by subst h;exact ⟨tb.g_max,rfl,soundV_max⟩⟩
 else none
def IsBy (x:Cx) (e:Expr):Prop:=∃nb p,e=.Name nb p∧nb="bytes"∧(nb==("__debug__":Str))=false∧x.glob nb=true
def byQ (x:Cx) (e:Expr):Option (PLift (IsBy x e)):=onName e (λU=>none) λnb p=>if h2:nb="bytes" then if hd2:(nb==("__debug__":Str))=false then if hx2:x.glob nb=true then some ⟨nb,p,rfl,h2,hd2,hx2⟩ else none else none else none
def callB (tb:Tab c lvl) (m:Mk c lvl) (x:Cx) (n:Str) (p pos:Pos) (hx:x.glob n=true) (hd:(n==("__debug__":Str))=false) (es:List Expr):RE c lvl x (.Call (.Name n p) es [] pos):=
 oneQ es (twoQ es λe e' h=>if hp:plainArg e=true then (m.E x e).bind λa=>if h1:n="isinstance" then (byQ x e').bind λq=>some ⟨isByt a.1,by
   obtain ⟨nb,p2,h2,h3,h4,h5⟩:=q.down
   rw[h,h2]
   subst h1
   subst h3
   exact sound_isByt hx tb.g_isinstance hd h5 tb.g_bytes h4 a.2 hp⟩
  else (m.E x e').bind λb=>if hp':plainArg e'=true then (bi2 tb n).bind λq=>some ⟨bin q.1.2 a.1 b.1,by rw[h];exact sound_b2 hx q.2.1 hd q.2.2.1 q.2.2.2 a.2 b.2 hp hp'⟩ else none else none)
  λe h=>(m.E x e).bind λa=>if hp:plainArg e=true then (bi1 tb n).bind λq=>some ⟨b1 q.1.2 a.1,by rw[h];exact sound_b1 hx q.2.1 hd q.2.2.1 q.2.2.2 a.2 hp⟩ else none
def IsKw (kw:List Keyword) (s:Str):Prop:=∃k p q,kw=[⟨some s,.Constant (.bool true) k p,q⟩]
def truQ (n:Str) (q:Pos) (e:Expr):Option (PLift (IsKw [⟨some n,e,q⟩] n)):=onConst e (λU=>none) λb k p=>if h:b=.bool true then some ⟨k,p,q,by rw[h]⟩ else none
def kwQ (kw:List Keyword):Option {s:Str // IsKw kw s}:=oneQ kw none λk h=>by
 obtain ⟨n,e,q⟩:=k
 cases n with
 |none=>exact none
 |some s=>exact (truQ s q e).bind λt=>some ⟨s,h▸t.down⟩
def callK (tb:Tab c lvl) (m:Mk c lvl) (x:Cx) (n:Str) (p pos:Pos) (hx:x.glob n=true) (hd:(n==("__debug__":Str))=false) (es:List Expr) (kw:List Keyword):RE c lvl x (.Call (.Name n p) es kw pos):=by
 cases kw with
 |nil=>exact (tb.fn n).elim ((tb.kls n).elim (callB tb m x n p pos hx hd es) λq=>(listC m x es).bind λl=>some ⟨newC q.1.1 q.1.2 l.1,by obtain ⟨a,m',h1,h2,h3,h4⟩:=q.2;exact sound_new tb.ok hx h1 hd h2 h3 h4 l.2.1 l.2.2⟩) λF=>(listC m x es).bind λl=>some ⟨callF F.1 l.1,by obtain ⟨a,h1,h2,h3⟩:=F.2;exact sound_call tb.ok hx h1 hd h2 h3 (Nat.le_refl _) l.2.1 l.2.2⟩
 |cons k ks=>exact oneQ es none λe h=>(kwQ (k::ks)).bind λq=>if h1:n="sorted" then if h2:q.1="reverse" then if hp:plainArg e=true then (m.E x e).bind λa=>some ⟨b1 bSortedR a.1,by
   obtain ⟨s,k',p',q',h3⟩:=q
   rw[h,h3]
   subst h1
   exact sound_sortedR hx tb.g_sorted hd h2 a.2 hp⟩ else none else none else none
def callN (tb:Tab c lvl) (m:Mk c lvl) (x:Cx) (n:Str) (p:Pos) (es:List Expr) (kw:List Keyword) (pos:Pos):RE c lvl x (.Call (.Name n p) es kw pos):=
 if hd:(n==("__debug__":Str))=false then if hx:x.glob n=true then callK tb m x n p pos hx hd es kw else none else none
def methB (m:Mk c lvl) (x:Cx) (o:Expr) (n:Str) (ap pos:Pos) (hb:noBareCall o=true) (hl:(ap.endLine==pos.line)=true) (a:{a:C // SoundE c lvl x o a}):∀es,RE c lvl x (.Call (.Attribute o n ap) es [] pos)
 |[e]=>if hp:plainArg e=true then (m.E x e).bind λb=>
   if h:n="get" then some ⟨mGet a.1 b.1 (cst .none),by subst h;exact sound_get1 a.2 hb hl b.2 hp⟩
   else if h:n="append" then some ⟨mApp a.1 b.1,by subst h;exact sound_append a.2 hb hl b.2 hp⟩
   else if h:n="extend" then some ⟨mExt a.1 b.1,by subst h;exact sound_extend a.2 hb hl b.2 hp⟩
   else if h:n="update" then some ⟨mUpd a.1 b.1,by subst h;exact sound_update a.2 hb hl b.2 hp⟩
   else none
  else none
 |[e,e']=>if hp:plainArg e=true then if hp':plainArg e'=true then (m.E x e).bind λb=>(m.E x e').bind λd=>
   if h:n="get" then some ⟨mGet a.1 b.1 d.1,by subst h;exact sound_get2 a.2 hb hl b.2 hp d.2 hp'⟩
   else if h:n="pop" then some ⟨mPop a.1 b.1 d.1,by subst h;exact sound_pop a.2 hb hl b.2 hp d.2 hp'⟩
   else if h:n="setdefault" then some ⟨mSetd a.1 b.1 d.1,by subst h;exact sound_setd a.2 hb hl b.2 hp d.2 hp'⟩
   else none
  else none else none
 |_=>none
def methC (tb:Tab c lvl) (m:Mk c lvl) (x:Cx) (o:Expr) (n:Str) (ap:Pos) (es:List Expr) (pos:Pos):RE c lvl x (.Call (.Attribute o n ap) es [] pos):=
 if hb:noBareCall o=true then if hl:(ap.endLine==pos.line)=true then (m.E x o).bind λa=>
  match tb.ms n with
  |some ml=>if hs:okS n=true then if hn:es.length<30 then (listC m x es).bind λl=>some ⟨meth (sc n) ml.1 a.1 l.1,sound_meth tb.ok a.2 hb hl hs ml.2 (Nat.le_refl _) l.2.1 l.2.2 hn⟩ else none else none
  |none=>methB m x o n ap pos hb hl a es
 else none else none
def joinC (m:Mk c lvl) (x:Cx) (k:Nat) (cp:Pos) (n:Str) (ap pos:Pos):∀es,RE c lvl x (.Call (.Attribute (.Constant (.bytes []) k cp) n ap) es [] pos)
 |[e]=>if hp:plainArg e=true then if hl:(ap.endLine==pos.line)=true then if h:n="join" then (m.E x e).bind λa=>some ⟨b1 bJoin a.1,by subst h;exact sound_join hl a.2 hp⟩ else none else none else none
 |_=>none
def callA (tb:Tab c lvl) (m:Mk c lvl) (x:Cx) (o:Expr) (n:Str) (ap:Pos) (es:List Expr) (pos:Pos):RE c lvl x (.Call (.Attribute o n ap) es [] pos):=
 onConst o (λo=>methC tb m x o n ap es pos) λq k cp=>if h:q=.bytes [] then (joinC m x k cp n ap pos es).bind λa=>some ⟨a.1,h▸a.2⟩ else none
def callC (tb:Tab c lvl) (m:Mk c lvl) (x:Cx) (f:Expr) (es:List Expr) (kw:List Keyword) (pos:Pos):RE c lvl x (.Call f es kw pos):=
 onName f (λf=>onAttr f (λU=>none) λo n ap=>by
  cases kw with
  |nil=>exact callA tb m x o n ap es pos
  |cons=>exact none) λn p=>callN tb m x n p es kw pos
def subC (m:Mk c lvl) (x:Cx) (v:Expr) (pos:Pos) (s:Expr):RE c lvl x (.Subscript v s pos):=
 onSlice s (λs=>if hs:plainIx s=true then (m.E x v).bind λa=>(m.E x s).bind λb=>some ⟨idx a.1 b.1,sound_idx a.2 b.2 hs⟩ else none) λl u st p=>by
  cases st with
  |none=>cases l with
   |none=>cases u with
    |some u=>exact (m.E x v).bind λa=>(m.E x u).bind λb=>some ⟨cutTo a.1 b.1,sound_cutTo a.2 b.2⟩
    |_=>exact none
   |some l=>cases u with
    |none=>exact (m.E x v).bind λa=>(m.E x l).bind λb=>some ⟨cutFrom a.1 b.1,sound_cutFrom a.2 b.2⟩
    |_=>exact none
  |_=>exact none
theorem sound_badIf {x:Cx} {es:List Expr}:SoundIf c lvl x es badT:=by
 intro f w s σ A Q E t u fo h
 exact fF h
noncomputable def orBadIf {x:Cx} {es:List Expr} (r:Option {t:T // SoundIf c lvl x es t}):{t:T // SoundIf c lvl x es t}:=match r with|some a=>a|none=>⟨badT,sound_badIf⟩
noncomputable def ifsC (m:Mk c lvl) (x:Cx):∀es,Option {t:T // SoundIf c lvl x es t}
 |[]=>some ⟨yes,soundIf_nil⟩
 |[e]=>(m.T x e).bind λa=>some ⟨a.1,soundIf_one a.2⟩
 |_=>none
def lcC (m:Mk c lvl) (x:Cx) (elt:Expr) (s':Scope) (pos:Pos) (gs:List Comprehension):RE c lvl x (.ListComp elt gs s' pos):=
 genQ gs λt it ifs h=>if hx:x.comp=none then if hc:compScope x.scope s'=true then
  (m.I x it).bind λi=>(m.A ⟨x.scope,some s'⟩ t).bind λa=>some ⟨lc (orBadE (m.E ⟨x.scope,some s'⟩ elt)).1 a.1 i.1 (orBadIf (ifsC m ⟨x.scope,some s'⟩ ifs)).1,h▸sound_lc hx hc i.2 a.2 (orBadIf (ifsC m ⟨x.scope,some s'⟩ ifs)).2 (orBadE (m.E ⟨x.scope,some s'⟩ elt)).2⟩ else none else none
def dcC (tb:Tab c lvl) (m:Mk c lvl) (x:Cx) (kx vx:Expr) (s':Scope) (pos:Pos) (gs:List Comprehension):RE c lvl x (.DictComp kx vx gs s' pos):=
 genQ gs λt it ifs h=>if hx:x.comp=none then if hc:compScope x.scope s'=true then
  (m.I x it).bind λi=>(m.A ⟨x.scope,some s'⟩ t).bind λa=>some ⟨dc (orBadE (m.E ⟨x.scope,some s'⟩ kx)).1 (orBadE (m.E ⟨x.scope,some s'⟩ vx)).1 a.1 i.1 (orBadIf (ifsC m ⟨x.scope,some s'⟩ ifs)).1,h▸sound_dc tb.ok hx hc i.2 a.2 (orBadIf (ifsC m ⟨x.scope,some s'⟩ ifs)).2 (orBadE (m.E ⟨x.scope,some s'⟩ kx)).2 (orBadE (m.E ⟨x.scope,some s'⟩ vx)).2⟩ else none else none
def dctC (tb:Tab c lvl) (m:Mk c lvl) (x:Cx) (pos:Pos):∀ks vs,RE c lvl x (.Dict ks vs pos)
 |[],[]=>some ⟨dctE .nil,sound_dct0 tb.ok⟩
 |k::ks,vs=>if hn:(k::ks).length≤15 then (pairsC m x (k::ks) vs).bind λl=>some ⟨dctE l.1,sound_dct tb.ok l.2 (by simp) hn⟩ else none
 |_,_=>none
def unN (x:Cx) (pos p:Pos) (j:Nat) (q:Const):RE c lvl x (.UnaryOp .USub (.Constant q j p) pos):=by
 cases q with
 |int i=>exact if h:i=.ofNat (i.toNat-1+1) then some ⟨cst (.neg (i.toNat-1)),by rw[h];exact sound_minus⟩ else none
 |_=>exact none
def unC (m:Mk c lvl) (x:Cx) (pos:Pos) (op:UnaryOp) (e:Expr):RE c lvl x (.UnaryOp op e pos):=by
 cases op with
 |Not=>exact (m.E x e).bind λa=>some ⟨ofT (noT (tstT a.1)),sound_notV a.2⟩
 |USub=>exact onConst e (λU=>none) λq j p=>unN x pos p j q
 |_=>exact none
def stepE (tb:Tab c lvl) (m:Mk c lvl) (x:Cx) (e:Expr):RE c lvl x e:=by
 cases e with
 |Constant q n pos=>exact (someQ (constA q)).map λv=>⟨cst v.1,sound_cst v.2⟩
 |Name n pos=>exact nameC tb x n pos
 |Attribute e n pos=>exact if hs:okS n=true then if hb:noBareCall e=true then (m.E x e).bind λa=>(tb.att n).elim ((tb.atk n).bind λq=>some ⟨attrK q.1 (sc n) a.1,sound_attrK tb.ok a.2 q.2 hs hb⟩) λhn=>some ⟨attr (sc n) a.1,sound_attr tb.ok a.2 hn.down hs hb⟩ else none else none
 |Subscript v s pos=>exact subC m x v pos s
 |Call f es kw pos=>exact callC tb m x f es kw pos
 |BinOp l op r pos=>exact (opC op).bind λg=>(m.E x l).bind λa=>(m.E x r).bind λb=>some ⟨bin g.1 a.1 b.1,sound_bin g.2 a.2 b.2⟩
 |Compare l ops rs pos=>exact (cmpT m x l ops rs pos).bind λt=>some ⟨ofT t.1,t.2.2⟩
 |BoolOp op es pos=>cases op with
  |And=>exact (andV m x es).bind λa=>some ⟨a.1,sound_boolV a.2⟩
  |Or=>exact (orV m x es).bind λa=>some ⟨a.1,sound_boolV a.2⟩
 |UnaryOp op e pos=>exact unC m x pos op e
 |IfExp t b o pos=>exact (m.T x t).bind λt=>some ⟨iteC t.1 (orBadE (m.E x b)).1 (orBadE (m.E x o)).1,sound_iteC t.2 (orBadE (m.E x b)).2 (orBadE (m.E x o)).2⟩
 |Tuple es n pos=>exact if hn:es.length≤10000 then (listC m x es).bind λl=>some ⟨tupE l.1,sound_tup l.2.1 hn⟩ else none
 |List es pos=>exact if hn:es.length≤10000 then (listC m x es).bind λl=>some ⟨lstE l.1,sound_lst l.2.1 hn⟩ else none
 |Dict ks vs pos=>exact dctC tb m x pos ks vs
 |ListComp elt gs s pos=>exact lcC m x elt s pos gs
 |DictComp k v gs s pos=>exact dcC tb m x k v s pos gs
 |_=>exact none
end
section
variable {c:Cf} {lvl:Nat}
def tstC (m:Mk c lvl) (x:Cx) (e:Expr) (h:∀env whole,isTrue e env whole=(do let v ←whole;standAt e.pos;holding [v] (PySem.truthy v))):RT c lvl x e:=(m.E x e).bind λa=>some ⟨tstT a.1,sound_tst a.2 h⟩
def stepT (tb:Tab c lvl) (m:Mk c lvl) (x:Cx) (e:Expr):RT c lvl x e:=
 onUn e (λe=>onBool e (λe=>onCmp e (λe=>onConst e (λe=>onName e (λe=>onAttr e (λe=>onSub e (λe=>onCall e (λU=>none)
  λU U U U=>tstC m x _ λU U=>rfl) λU U U=>tstC m x _ λU U=>rfl) λU U U=>tstC m x _ λU U=>rfl) λU U=>tstC m x _ λU U=>rfl) λU U U=>tstC m x _ λU U=>rfl)
  λl ops rs pos=>cmpE m x l ops rs pos) λop es pos=>by
   cases op with
   |And=>exact (andC m x es).bind λa=>some ⟨a.1,sound_bool a.2⟩
   |Or=>exact (orTC m x es).bind λa=>some ⟨a.1,sound_bool a.2⟩) λop e pos=>by
  cases op with
  |Not=>exact (m.T x e).bind λa=>some ⟨noT a.1,sound_noT a.2⟩
  |_=>exact none
def nameA (x:Cx) (n:Str) (pos:Pos):RA c lvl x (.Name n pos):=
 if hs:okS n=true then
  match hc:x.comp with
  |none=>if h:x.scope.names.lookup n=some .local then some ⟨tVar (sc n),sound_tVar hc hs (.inl h)⟩ else if h:x.scope.names.lookup n=some .cell then some ⟨tVar (sc n),sound_tVar hc hs (.inr h)⟩ else none
  |some s'=>if h:s'.names.lookup n=some .local then some ⟨tCvar (sc n),sound_tCvar hc hs h⟩ else none
 else none
def stepA (tb:Tab c lvl) (m:Mk c lvl) (x:Cx) (e:Expr):RA c lvl x e:=
 onName e (λe=>onTup e (λe=>onSub e (λe=>onAttr e (λU=>none)
  λe n pos=>if hs:okS n=true then (m.E x e).bind λa=>(tb.att n).elim ((tb.atk n).bind λq=>some ⟨tAttrK q.1 (sc n) a.1,sound_tAttrK tb.ok a.2 q.2 hs⟩) λhn=>some ⟨tAttr (sc n) a.1,sound_tAttr tb.ok a.2 hn.down hs⟩ else none)
  λo i pos=>(m.E x o).bind λa=>(m.E x i).bind λb=>some ⟨tIdx a.1 b.1,sound_tIdx a.2 b.2⟩)
  λes n pos=>(tgtsC m x es).bind λl=>some ⟨tTup l.1,sound_tTup l.2⟩) λn pos=>nameA x n pos
def itC (m:Mk c lvl) (x:Cx) (e:Expr):RI c lvl x e:=if hn:noSet e=true then (m.E x e).bind λa=>some ⟨itE a.1,sound_itE hn a.2⟩ else none
def IsNeg (e:Expr):Prop:=∃k q p,e=.UnaryOp .USub (.Constant (.int (.ofNat 1)) k q) p
def negQ (e:Expr):Option (PLift (IsNeg e)):=onUn e (λU=>none) λo e p=>if h:o=.USub then onConst e (λU=>none) λc k q=>by
  cases c with
  |int i=>exact if h':i=.ofNat 1 then some ⟨k,q,p,by rw[h,h']⟩ else none
  |_=>exact none
 else none
theorem sound_neg {x:Cx} {n:Str} {p pos:Pos} {es:List Expr} {e e1 e2:Expr} {a:C} (h1:es=[e,e1,e2]) (h2:IsNeg e1) (h3:IsNeg e2) (h:n="range") (hx:x.glob n=true) (g:GlobV c "range" (.type "range")) (hd:(n==("__debug__":Str))=false) (H:SoundE c lvl x e a) (hp:plainArg e=true):SoundI c lvl x (.Call (.Name n p) es [] pos) (itD a):=by
 subst h1
 obtain ⟨k1,q1,p1,rfl⟩:=h2
 obtain ⟨k2,q2,p2,rfl⟩:=h3
 subst h
 exact sound_rangeD hx g hd H hp
def rngC (tb:Tab c lvl) (m:Mk c lvl) (x:Cx) (n:Str) (p pos:Pos) (es:List Expr):RI c lvl x (.Call (.Name n p) es [] pos):=
 if h:n="range" then if hd:(n==("__debug__":Str))=false then if hx:x.glob n=true then
  oneQ es (threeQ es λe e1 e2 h0=>(negQ e1).bind λh1=>(negQ e2).bind λh2=>if hp:plainArg e=true then (m.E x e).bind λa=>some ⟨itD a.1,sound_neg h0 h1.down h2.down h hx tb.g_range hd a.2 hp⟩ else none) λe h0=>if hp:plainArg e=true then (m.E x e).bind λa=>some ⟨itR (cst (.nat 0)) a.1,by rw[h0];subst h;exact sound_range1 hx tb.g_range hd a.2 hp⟩ else none
 else none else none else itC m x _
def stepI (tb:Tab c lvl) (m:Mk c lvl) (x:Cx) (e:Expr):RI c lvl x e:=
 onCall e (itC m x) λf es kw pos=>onName f (λf=>itC m x _) λn p=>by
  cases kw with
  |nil=>exact rngC tb m x n p pos es
  |cons=>exact itC m x _
noncomputable def asgE (m:Mk c lvl) (x:Cx) (t e:Expr) (pos:Pos):RX c lvl x (.Assign [t] e pos):=
 if hx:x.comp=none then if hs:swapStat x e t=false then if hp:plainArg t=true then if hn:swapN x t e=some none then (m.E x e).bind λb=>(m.A x t).bind λa=>some ⟨asg a.1 b.1,sound_asgT hx hp hn a.2 b.2 hs⟩ else none else none else none else none
def ssQ {α:Type} (o:Option (Option α)):Option {a // o=some (some a)}:=by
 cases o with
 |none=>exact none
 |some o=>cases o with
  |none=>exact none
  |some a=>exact some ⟨a,rfl⟩
def asgT (m:Mk c lvl) (x:Cx) (pos:Pos) (ts vs:List Expr) (k j:Nat) (p q:Pos):RX c lvl x (.Assign [.Tuple ts k p] (.Tuple vs j q) pos):=
 (ssQ (swapN x (.Tuple ts k p) (.Tuple vs j q))).elim (asgE m x _ _ pos) λns=>if hx:x.comp=none then if ho:ns.1.all okS=true then (listC m x vs).bind λl=>some ⟨asgR (alOf ns.1.reverse) l.1,sound_asgR hx ns.2 ho l.2.1⟩ else none else none
def asgC (m:Mk c lvl) (x:Cx) (pos:Pos) (y:Str) (py:Pos) (elt:Expr) (gs:List Comprehension) (s':Scope) (lp:Pos):RX c lvl x (.Assign [.Name y py] (.ListComp elt gs s' lp) pos):=
 if hs:swapStat x (.ListComp elt gs s' lp) (.Name y py)=true then
  genQ gs λt it ifs h=>if hx:x.comp=none then if hc:compScope x.scope s'=true then
   (m.A x (.Name y py)).bind λty=>(m.I x it).bind λi=>(m.A ⟨x.scope,some s'⟩ t).bind λa=>some ⟨asg ty.1 (lc (orBadE (m.E ⟨x.scope,some s'⟩ elt)).1 a.1 i.1 (orBadIf (ifsC m ⟨x.scope,some s'⟩ ifs)).1),by subst h;exact sound_asg_lc hx hs ty.2 hc i.2 a.2 (orBadIf (ifsC m ⟨x.scope,some s'⟩ ifs)).2 (orBadE (m.E ⟨x.scope,some s'⟩ elt)).2⟩ else none else none
 else asgE m x _ _ pos
def asgN (m:Mk c lvl) (x:Cx) (pos:Pos) (t e:Expr):RX c lvl x (.Assign [t] e pos):=
 onTup t (λt=>onName t (λt=>asgE m x t e pos) λy py=>onLC e (λe=>asgE m x _ e pos) λelt gs s' lp=>asgC m x pos y py elt gs s' lp)
  λts k p=>onTup e (λe=>asgE m x _ e pos) λvs j q=>asgT m x pos ts vs k j p q
def stX (tb:Tab c lvl) (m:Mk c lvl) (x:Cx) (st:Stmt):RX c lvl x st:=by
 cases st with
 |Assign ts e pos=>exact oneQ ts none λt h=>(asgN m x pos t e).bind λa=>some ⟨a.1,h▸a.2⟩
 |Expr e pos=>exact onCall e (λU=>none) λf es kw p=>(m.E x (.Call f es kw p)).bind λa=>some ⟨exS a.1,sound_ex a.2 λU=>rfl⟩
 |Return e pos=>cases e with
  |none=>exact some ⟨retS (cst .none),sound_ret0⟩
  |some e=>exact (m.E x e).bind λa=>some ⟨retS a.1,sound_ret a.2⟩
 |If t b o pos=>exact (m.T x t).bind λa=>some ⟨ifS a.1 (m.S x b).1 (m.S x o).1,sound_if a.2 (m.S x b).2 (m.S x o).2⟩
 |While t b o pos=>cases o with
  |nil=>exact (m.T x t).bind λa=>some ⟨whl a.1 (m.S x b).1 100,sound_whl a.2 (m.S x b).2⟩
  |cons=>exact none
 |For t e b o pos=>cases o with
  |nil=>exact (m.I x e).bind λi=>(m.A x t).bind λa=>some ⟨forS a.1 i.1 (m.S x b).1,sound_for i.2 a.2 (m.S x b).2⟩
  |cons=>exact none
 |Continue pos=>exact some ⟨cntS,sound_cont⟩
 |Pass pos=>exact some ⟨skip,sound_pass⟩
 |_=>exact none
noncomputable def orBad {x:Cx} {st:Stmt} (r:RX c lvl x st):{a:S // SoundX c lvl x st a}:=match r with|some a=>a|none=>⟨badS,sound_badX⟩
def stepS (tb:Tab c lvl) (m:Mk c lvl) (x:Cx):∀ss,RS c lvl x ss
 |[]=>⟨skip,sound_nil⟩
 |[st]=>⟨(orBad (stX tb m x st)).1,sound_one (orBad (stX tb m x st)).2⟩
 |st::rest=>⟨sq (orBad (stX tb m x st)).1 (stepS tb m x rest).1,sound_sq (orBad (stX tb m x st)).2 (stepS tb m x rest).2⟩
def mk (tb:Tab c lvl) (n:Nat):Mk c lvl:=
 Nat.rec (motive:=λU=>Mk c lvl) ⟨λU U=>none,λU U=>none,λU U=>none,λU U=>none,λU U=>⟨badS,sound_badS⟩⟩ (λU m=>⟨stepE tb m,stepT tb m,stepA tb m,stepI tb m,stepS tb m⟩) n
theorem sound_mk (tb:Tab c lvl) {a:Addr} {fd:FuncData} {body:List Stmt} {ns:List Str} {dv:List Value} {ps:NL} {ds:VL} {F:F} (H:FnAt c a fd body ns dv) (hp:PsAt ps ns) (hd:DsAt c ds ns dv) (n:Nat) (e:F=fnD ps ds ((mk tb n).S ⟨fd.scope,none⟩ body).1):SoundFn c (lvl+1) a F:=by
 rw[e]
 exact sound_fn H hp hd ((mk tb n).S ⟨fd.scope,none⟩ body).2
end
structure Ent {α:Type} (P:Str->α->Prop) where
 k:Nat
 v:α
 h:∀n,okS n=true->sc n=k->P n v
noncomputable def findE {α:Type} {P:Str->α->Prop} (n:Str):List (Ent P)->Option {v:α // P n v}
 |[]=>none
 |e::l=>if h:(okS n&&Nat.beq (sc n) e.k)=true then some ⟨e.v,e.h n (by rw[Bool.and_eq_true] at h;exact h.1) (by rw[Bool.and_eq_true] at h;exact Nat.eq_of_beq_eq_true h.2)⟩ else findE n l
noncomputable def Ent.of {α:Type} {P:Str->α->Prop} (n0:Str) (k:Nat) (v:α) (ho:okS n0=true) (hk:sc n0=k) (h:P n0 v):Ent P:=⟨k,v,λn h1 h2=>by rw[sc_inj h1 ho (h2.trans hk.symm)];exact h⟩
section
variable {c:Cf} {m L:Nat}
theorem SoundFn.up {a:Addr} {F:F} (H:SoundFn c m a F) (h:m≤L):SoundFn c L a F:=λf w s σ A R k v ds vs h1 rel rm C r post=>H f w s σ A R k v ds vs h1 rel (rm.down h) C r post
theorem MsAt.up {n:Str} {ml:ML} (H:MsAt c m n ml) (h:m≤L):MsAt c L n ml:=by
 induction H with
 |nil=>exact .nil
 |cons h1 h2 h3 h4 _ ih=>exact .cons h1 h2 h3 (h4.up h) ih
end
theorem coverA_conc {ρ:Rho} {bd:BL} (B:BOk ρ bd) (x:AV):(∀y d,coverA bd x y=true->Conc ρ x d->Conc ρ y d)∧(∀y ds,coverA bd x y=true->ConcL ρ x ds->ConcL ρ y ds):=by
 induction x with
 |none=>
  refine ⟨λy d h C=>?_,λy ds h C=>C.inv⟩
  obtain ⟨rfl,_⟩:=isNonT_true (show isNonT y true false=true from h)
  exact C
 |bool b=>
  refine ⟨λy d h C=>?_,λy ds h C=>C.inv⟩
  cases y with
  |bool e=>cases b<;>cases e<;>first|exact C|exact fF h
  |_=>exact fF h
 |nil=>
  refine ⟨λy d h C=>C.inv,λy ds h C=>?_⟩
  obtain ⟨rfl,_⟩:=isNil_true (show isNil y true=true from h)
  exact C
 |cons a t iha iht=>
  refine ⟨λy d h C=>C.inv,λy ds h C=>?_⟩
  obtain ⟨a',t',rfl,h'⟩:=isCons_true (show isCons y (λh t'=>and (coverA bd a h) (coverA bd t t'))=true from h)
  rw[Bool.and_eq_true] at h'
  cases C with
  |cons C1 C2=>exact .cons (iha.1 _ _ h'.1 C1) (iht.2 _ _ h'.2 C2)
 |tup xs ih=>
  refine ⟨λy d h C=>?_,λy ds h C=>C.inv⟩
  obtain ⟨ys,rfl,h'⟩:=isTup_true (show isTup y (λys=>coverA bd xs ys)=true from h)
  cases C with
  |tup C=>exact .tup (ih.2 _ _ h' C)
 |any=>
  refine ⟨λy d h C=>?_,λy ds h C=>C.inv⟩
  cases y with
  |any=>exact C
  |_=>exact fF h
 |str k=>
  refine ⟨λy d h C=>?_,λy ds h C=>C.inv⟩
  cases y with
  |str m=>
   have:=beq_true (show Nat.beq k m=true from h)
   subst this
   exact C
  |sany=>cases C with|str s _=>exact .sany s
  |_=>exact fF h
 |sany=>
  refine ⟨λy d h C=>?_,λy ds h C=>C.inv⟩
  cases y with
  |sany=>exact C
  |_=>exact fF h
 |nat n=>
  refine ⟨λy d h C=>?_,λy ds h C=>C.inv⟩
  cases C with
  |nat=>
  cases y with
  |nat m=>
   have h:and (Nat.beq 0 0) (Nat.beq n m)=true:=h
   rw[Bool.and_eq_true] at h
   have:=beq_true h.2
   subst this
   exact .nat n
  |sym a k=>
   have h:and (Nat.beq a 0) (Nat.beq n k)=true:=h
   rw[Bool.and_eq_true] at h
   have e1:=beq_true h.1
   have e2:=beq_true h.2
   subst e1
   subst e2
   have:=Conc.sym (ρ:=ρ) 0 n
   rw[ρ.zero,Int.zero_add] at this
   exact this
  |rng lo hi=>
   have h:and (Nat.ble lo n) (Nat.ble n hi)=true:=h
   rw[Bool.and_eq_true] at h
   exact .rng lo hi n (by have:=ble_true h.1;omega) (by have:=ble_true h.2;omega)
  |any=>exact .any _
  |_=>exact fF h
 |neg n=>
  refine ⟨λy d h C=>?_,λy ds h C=>C.inv⟩
  cases C with
  |neg=>
  cases y with
  |neg m=>
   have:=beq_true (show Nat.beq n m=true from h)
   subst this
   exact .neg n
  |any=>exact .any _
  |_=>exact fF h
 |sym a k=>
  refine ⟨λy d h C=>?_,λy ds h C=>C.inv⟩
  cases C with
  |sym=>
  cases y with
  |any=>exact .any _
  |nat m=>
   have h:and (Nat.beq a 0) (Nat.beq k m)=true:=h
   rw[Bool.and_eq_true] at h
   have e1:=beq_true h.1
   have e2:=beq_true h.2
   subst e1
   subst e2
   rw[ρ.zero,Int.zero_add]
   exact .nat k
  |sym b m=>
   have h:and (Nat.beq a b) (Nat.beq k m)=true:=h
   rw[Bool.and_eq_true] at h
   have e1:=beq_true h.1
   have e2:=beq_true h.2
   subst e1
   subst e2
   exact .sym a k
  |rng lo hi=>
   have h:leS bd 0 lo a k (leS bd a k 0 hi true false) false=true:=h
   have d1:=leS_dec B h
   have p1:ρ.val 0+(lo:Int)≤ρ.val a+k:=by
    rcases Int.lt_or_le (ρ.val a+(k:Int)) (ρ.val 0+lo) with q|q
    · exact fF (d1.2 (by omega))
    · exact q
   have d2:=leS_dec B (d1.1 p1)
   have p2:ρ.val a+(k:Int)≤ρ.val 0+hi:=by
    rcases Int.lt_or_le (ρ.val 0+(hi:Int)) (ρ.val a+k) with q|q
    · exact fF (d2.2 (by omega))
    · exact q
   rw[ρ.zero] at p1 p2
   exact .rng lo hi _ (by omega) (by omega)
  |_=>exact fF h
 |rng lo hi=>
  refine ⟨λy d h C=>?_,λy ds h C=>C.inv⟩
  cases C with
  |rng _ _ i h1 h2=>
  cases y with
  |any=>exact .any _
  |rng lo' hi'=>
   have h:and (Nat.ble lo' lo) (Nat.ble hi hi')=true:=h
   rw[Bool.and_eq_true] at h
   exact .rng lo' hi' i (by have:=ble_true h.1;omega) (by have:=ble_true h.2;omega)
  |_=>exact fF h
 |_=>exact ⟨λy d h C=>(fF h),λy ds h C=>C.inv⟩
mutual
noncomputable def CD.flat:CD->Bool
 | .none=>true
 | .bool _=>true
 | .int _=>true
 | .str _=>true
 | .bytes _=>true
 | .tup xs=>CD.flatL xs
 | .lst _=>false
 | .dic _=>false
 | .loc _=>false
noncomputable def CD.flatL:List CD->Bool
 |[]=>true
 |x::xs=>x.flat&&CD.flatL xs
end
section
variable {Pm:Params} {w w':Wd} {h h':Heap}
theorem andT {a b:Bool} {P:Prop} (h:(a&&b)=true) (k:a=true->b=true->P):P:=k (Bool.and_eq_true_iff.mp h).1 (Bool.and_eq_true_iff.mp h).2
theorem Rd.flat (K:∀a o,h.get? a=some o->¬w.X a->h'.get? a=some o) (X:∀a o,h.get? a=some o->w'.X a->w.X a) {d:CD} {v:Value} (r:Rd Pm w h d v):d.flat=true->Rd Pm w' h' d v:=
 Rd.rec (motive_1:=λd v U=>d.flat=true->Rd Pm w' h' d v) (motive_2:=λd v U=>CD.flatL d=true->RdL Pm w' h' d v) (motive_3:=λU U U=>True)
  (λU=>.none) (λb U=>.bool b) (λi t U=>.int i t) (λs t U=>.str s t) (λb t U=>.bytes b t)
  (λe c d n U r f=>.tup (K _ _ e n.1) c d ⟨λq=>n.1 (X _ _ e q),n.2⟩ (r f))
  (λU U U U U U U f=>fF f) (λU U U U U U U f=>fF f) (λU f=>fF f)
  (λU=>.nil) (λU U p q f=>andT f λa b=>.cons (p a) (q b)) trivial (λU U U U U U U=>trivial) r
theorem RdL.flat (K:∀a o,h.get? a=some o->¬w.X a->h'.get? a=some o) (X:∀a o,h.get? a=some o->w'.X a->w.X a) {d:List CD} {v:List Value} (r:RdL Pm w h d v) (f:CD.flatL d=true):RdL Pm w' h' d v:=by
 induction v generalizing d with
 |nil=>cases r;exact .nil
 |cons x xs ih=>cases r with|cons a b=>exact andT f λp q=>.cons (Rd.flat K X a p) (ih b q)
end
noncomputable def flatA (x:AV):Bool:=by
 induction x with
 |tup _ f=>exact f
 |cons _ _ f g=>exact f&&g
 |byt=>exact false
 |lst=>exact false
 |dic=>exact false
 |loc=>exact false
 |dcons=>exact false
 |_=>exact true
noncomputable def intA (x:AV):Bool:=by
 cases x with
 |nat=>exact true
 |neg=>exact true
 |sym=>exact true
 |rng=>exact true
 |any=>exact true
 |_=>exact false
theorem flatA_conc {ρ:Rho} (x:AV):(∀d,flatA x=true->Conc ρ x d->d.flat=true)∧(∀ds,flatA x=true->ConcL ρ x ds->CD.flatL ds=true):=by
 induction x with
 |tup xs ih=>
  refine ⟨λd h C=>?_,λds h C=>C.inv⟩
  cases C with
  |tup C=>exact ih.2 _ h C
 |nil=>exact ⟨λd h C=>C.inv,λds h C=>by cases C;rfl⟩
 |cons a t iha iht=>
  refine ⟨λd h C=>C.inv,λds h C=>?_⟩
  change (flatA a&&flatA t)=true at h
  rw[Bool.and_eq_true] at h
  cases C with
  |cons C1 C2=>exact Bool.and_eq_true_iff.mpr ⟨iha.1 _ h.1 C1,iht.2 _ h.2 C2⟩
 |byt=>exact ⟨λd h C=>fF h,λds h C=>C.inv⟩
 |lst=>exact ⟨λd h C=>fF h,λds h C=>C.inv⟩
 |dic=>exact ⟨λd h C=>fF h,λds h C=>C.inv⟩
 |loc=>exact ⟨λd h C=>fF h,λds h C=>C.inv⟩
 |dcons=>exact ⟨λd h C=>fF h,λds h C=>C.inv⟩
 |_=>exact ⟨λd h C=>by cases C<;>rfl,λds h C=>C.inv⟩
theorem intA_conc {ρ:Rho} {x:AV} {d:CD} (h:intA x=true) (C:Conc ρ x d):∃i,d=.int i:=by
 cases C<;>first|exact ⟨_,rfl⟩|cases h
noncomputable def Wd.pure (w:Wd) (c:Cf) (g:Fm):Wd:=⟨λp=>(c.pin p).map λa=>(a,a),λa=>w.X a∨g.Own a,g.Own,λa h=>.inr h⟩
theorem BdAt.find {c:Cf} {w:Wd} {h:Heap} {x:Nat} {v:AV} {l:VL} {ns:List Str} {rvs:List Value} (B:BdAt c w h l ns rvs) (e:VL.find x l=some v):∃n d rv,sc n=x∧okS n=true∧Conc c.ρ v d∧Rd c.wo.params w h d rv∧(n,rv)∈ns.zip rvs:=by
 induction B with
 |nil=>cases e
 |@cons n v' l ns d rv rvs ok C r B ih=>
  rw[VL.find_c] at e
  cases q:Nat.beq (sc n) x with
  |true=>
   rw[q] at e
   cases e
   exact ⟨n,d,rv,beq_true q,ok,C,r,List.mem_cons_self⟩
  |false=>
   rw[q] at e
   obtain ⟨n',d',rv',a,b,e1,e2,e3⟩:=ih e
   exact ⟨n',d',rv',a,b,e1,e2,List.mem_cons_of_mem _ e3⟩
section
variable {c:Cf} {f g:Fm} {w:Wd} {s:St} {σ:Shared}
theorem Rel.pure (R:Rel c f w s σ) {h':Heap} {tk:Nat} {l:VL} {ns:List Str} {rvs:List Value} {nx:P} (hg:g.comp=none) (k:∀a o,σ.heap.get? a=some o->h'.get? a=some o) (fresh:∀a,g.Own a->σ.heap.get? a=none)
  (B:BdAt c (w.pure c g) h' l ns rvs) (nd:ns.Nodup) (hH:∀n rv,(n,rv)∈ns.zip rvs->Holds g.env h' n rv) (hns:∃m,h'.Ns g.env.locals m) (hc:∀x∈g.env.cells,∃v,h'.IsCell x.2 v) (hne:∀x∈g.env.cells,x.2≠g.env.locals)
  (hi:∀x∈g.env.cells,∀y∈g.env.cells,x.2=y.2->x.1=y.1) (hp:∀p a,c.pin p=some a->p.toNat<nx.toNat):
  Rel c g (w.pure c g) ⟨l,.nil,.lf,nx,.nil⟩ {σ with heap:=h',toks:=tk} where
 bd:=trivial
 vars x v e:=by
  obtain ⟨n,d,rv,a,b,e1,e2,e3⟩:=B.find e
  exact ⟨n,d,rv,a,b,e1,e2,hH n rv e3⟩
 cvars x v e:=(nomatch (show (none:Option AV)=some v from e))
 ns:=hns
 cells:=hc
 cellNe:=hne
 cellInj:=hi
 comp s c a e:=(by rw[hg] at e;cases e)
 own a h:=h
 obj p o e:=by
  have:HT.find p .lf=none:=by cases p<;>rfl
  rw[show HT.find p .lf=some o from e] at this
  cases this
 inj p q o o' a a' b e1 e2 h1 h2:=by
  have:HT.find p .lf=none:=by cases p<;>rfl
  rw[show HT.find p .lf=some o from e1] at this
  cases this
 nx p x e:=by
  obtain ⟨a,ha,_⟩:=Option.map_eq_some_iff.mp e
  exact hp p a ha
 base a o e:=⟨k a o (R.base a o e).1,λq=>q.elim (R.base a o e).2 λq=>by have:=(R.base a o e).1;rw[fresh a q] at this;cases this⟩
 dom a h:=by
  rcases h with h|h
  · obtain ⟨o,e⟩:=R.dom a h;exact ⟨o,k a o e⟩
  · rcases h with h|⟨x,hx,h⟩|⟨sc,cl,h⟩
    · obtain ⟨m,o,_,_,e,_⟩:=hns;exact ⟨o,h▸e⟩
    · obtain ⟨v,o,e,_⟩:=hc x hx;exact ⟨o,h▸e⟩
    · rw[hg] at h;cases h
 rest:=by obtain ⟨h,tk',e⟩:=R.rest;exact ⟨h',tk,by rw[e]⟩
 pin p a e:=by show (c.pin p).map _=_;rw[e];rfl
end
section
variable {c:Cf} {lvl:Nat}
theorem sound_callS {a:Addr} {fd:FuncData} {body:List Stmt} {ns:List Str} {dv:List Value} {ps:NL} {ds:VL} {b:S} {sh r:AV} {nx:P} {g0:F} (G:SoundFn c (lvl+1) a g0) (H:FnAt c a fd body ns dv) (hp:PsAt ps ns) (hd:DsAt c ds ns dv) (B:SoundS c lvl ⟨fd.scope,none⟩ body b)
  (hfl:flatA sh=true) (hr:intA r=true) (hpin:∀p a,c.pin p=some a->p.toNat<nx.toNat)
  (e0:fnD ps ds b sh ⟨.nil,.nil,.lf,nx,.nil⟩ (λv U=>coverA .nil v r)=true):SoundFn c (lvl+1) a (callS sh r g0):=by
 intro f w s σ A Rs k v dvs vs h0 rel rm C rv0 post
 have h0:(Bool.rec (g0 v s k) (k r s) (coverA s.bd v sh):Bool)=true:=h0
 cases hcov:coverA s.bd v sh with
 |false=>
  rw[hcov] at h0
  exact G f w s σ A Rs k v dvs vs h0 rel rm C rv0 post
 |true=>
 rw[hcov] at h0
 have hk:k r s=true:=h0
 have Csh:ConcL c.ρ sh dvs:=(coverA_conc rel.bd v).2 _ _ hcov C
 have flat:=(flatA_conc sh).2 _ hfl Csh
 have h:bindP ds ps sh (λl=>b ⟨l,.nil,.lf,nx,.nil⟩ (λs'=>coverA .nil .none r) (λv s'=>coverA .nil v r) (λU=>false))=true:=e0
 obtain ⟨o,ho,hdat⟩:=H.at_
 have toH:∀a o,c.base.get? a=some o->σ.heap.get? a=some o:=λa o e=>(rel.base a o e).1
 have sc:=H.scope
 unfold plainScope at sc
 simp only[Bool.and_eq_true,Bool.not_eq_true',decide_eq_true_eq,List.all_eq_true,Bool.or_eq_true,beq_iff_eq] at sc
 obtain ⟨⟨⟨⟨s1,s2⟩,s3⟩,s4⟩,s5⟩:=sc
 have hdf:Dflt σ.heap fd dv:=by
  rcases H.dflt with e|⟨T,o,n,e,ho,hd⟩
  · exact .inl e
  · exact .inr ⟨T,o,n,e,toH _ _ ho,hd⟩
 have relB:∀{w':Wd} {h':Heap},(∀a o,σ.heap.get? a=some o->h'.get? a=some o)->(∀a o,σ.heap.get? a=some o->w'.X a->w.X a)->RdL c.wo.params w' h' dvs vs:=λkp fx=>rv0.flat (λa o e U=>kp a o e) fx flat
 have rel0:Rel c f (⟨λp=>(c.pin p).map λa=>(a,a),w.X,w.W,w.sub⟩:Wd) ⟨.nil,.nil,.lf,nx,.nil⟩ σ:={
  bd:=trivial
  vars:=λx v e=>(nomatch (show (none:Option AV)=some v from e))
  cvars:=λx v e=>(nomatch (show (none:Option AV)=some v from e))
  ns:=rel.ns
  cells:=rel.cells
  cellNe:=rel.cellNe
  cellInj:=rel.cellInj
  comp:=rel.comp
  own:=rel.own
  obj:=λp o e=>by
   have:HT.find p .lf=none:=by cases p<;>rfl
   rw[show HT.find p .lf=some o from e] at this
   cases this
  inj:=λp q o o' a a' b e1 e2 h1 h2=>by
   have:HT.find p .lf=none:=by cases p<;>rfl
   rw[show HT.find p .lf=some o from e1] at this
   cases this
  nx:=λp x e=>by
   obtain ⟨a,ha,_⟩:=Option.map_eq_some_iff.mp e
   exact hpin p a ha
  base:=rel.base
  dom:=rel.dom
  rest:=rel.rest
  pin:=λp a e=>by show (c.pin p).map _=_;rw[e];rfl}
 obtain ⟨l,hb,l1,l2,BD⟩:=bindP_true (j:=0) (suf:=ns) rel0 hd H.dl rfl hp Csh (relB (λU U e=>e) (λU U U q=>q)) h
 refine codeAny_call_function (by have:=rm.depth;omega) (toH _ _ ho) hdat s2 s3 H.body (H.code.keeps toH) ?_
 refine bind_plain H.plain hdf l1 H.dl l2 ?_
 rw[H.clo]
 generalize hrvs:vs++dv.drop (vs.length+dv.length-ns.length)=rvs at BD
 have hlen:ns.length=rvs.length:=by rw[← hrvs];simp;omega
 have map1:(ns.zip rvs).map (·.1)=ns:=by rw[List.map_fst_zip (by omega)]
 have hmem:∀x∈ns.zip rvs,x.1∈ns:=λx hx=>(List.of_mem_zip hx).1
 refine wpAny_newFunctionEnv_cells s1 (λx hx=>?_) λenv he s' x=>?_
 · rcases s4 x.1 (hmem x hx) with q|q
   · exact .inl q
   · exact .inr ⟨q,cellsFrom_has (.inl (PySem.mem_of_lookup q))⟩
 have e1:env.cells=cellsFrom (σ.heap.objs.size+1) fd.scope.names []:=by rw[he];rfl
 have e2:env.scope=fd.scope:=by rw[he];rfl
 have e3:env.globals=mainGlobals:=by rw[he];exact H.gl
 have e4:env.builtins=builtinsNs:=by rw[he];exact H.bi
 obtain ⟨h',tk,rfl,kp⟩:=x.done
 have hnd:(env.cells.map (·.1)).Nodup:=by
  rw[e1]
  have:∀(names:List (Str×NameKind)) (k k':Nat) (acc acc':List (Str×Addr)),acc.map (·.1)=acc'.map (·.1)->(cellsFrom k names acc).map (·.1)=(cellsFrom k' names acc').map (·.1):=by
   intro names
   induction names with
   |nil=>intro k k' acc acc' e;exact e
   |cons y r ih=>
    intro k k' acc acc' e
    obtain ⟨m,kd⟩:=y
    unfold cellsFrom
    split
    · exact ih _ _ _ _ (by simp[e])
    · exact ih _ _ _ _ e
  rw[this fd.scope.names _ 0 [] [] rfl]
  exact s5
 let g:Fm:=⟨env,none⟩
 have above:∀y∈env.cells,env.locals<y.2:=λy hy=>x.above y.1 y.2 hy
 have frL:σ.heap.objs.size≤env.locals:=x.toInCall.fresh
 have fresh:∀a,g.Own a->σ.heap.get? a=none:=λa ha=>by
  have ge:σ.heap.objs.size≤a:=by
   rcases ha with q|⟨y,hy,q⟩|⟨_,_,q⟩
   · rw[q];exact frL
   · rw[← q];exact Nat.le_of_lt (Nat.lt_of_le_of_lt frL (above y hy))
   · cases q
  cases e:σ.heap.get? a with
  |none=>rfl
  |some o=>exact absurd (Heap.lt_size e) (Nat.not_lt.mpr ge)
 have kind:∀n kd,fd.scope.names.lookup n=some kd->env.kindOf n=some kd:=λn kd e=>by unfold Env.kindOf;rw[e2];exact e
 have hH:∀n rv,(n,rv)∈ns.zip rvs->Holds env h' n rv:=λn rv hm=>by
  rcases s4 n (hmem _ hm) with q|q
  · have kq:=kind n _ q
    exact .inl ⟨kq,_,x.toInCall.ns,bindL_mem kq (by rw[map1];exact H.plain.nd) hm⟩
  · have kq:=kind n _ q
    obtain ⟨a',ha'⟩:=Option.isSome_iff_exists.mp (cellsFrom_has (k:=σ.heap.objs.size+1) (acc:=[]) (.inl (PySem.mem_of_lookup q)))
    rw[← e1] at ha'
    refine .inr ⟨kq,a',ha',?_⟩
    have:=x.cell n a' ha'
    rw[bindC_mem (by rw[kq];decide) (by rw[map1];exact H.plain.nd) hm] at this
    exact this
 have fX:∀a o,σ.heap.get? a=some o->(w.pure c g).X a->w.X a:=λa o e q=>q.elim id λq=>by rw[fresh a q] at e;cases e
 have BD':BdAt c (w.pure c g) h' l ns rvs:=by
  have ER:ExtR (⟨λp=>(c.pin p).map λa=>(a,a),w.X,w.W,w.sub⟩:Wd) σ.heap (w.pure c g) h':=⟨λU U e=>e,λa o e U=>kp a o e,fX⟩
  have go:∀{l:VL} {ns:List Str} {rvs:List Value},BdAt c (⟨λp=>(c.pin p).map λa=>(a,a),w.X,w.W,w.sub⟩:Wd) σ.heap l ns rvs->BdAt c (w.pure c g) h' l ns rvs:=by
   intro l ns rvs B
   induction B with
   |nil=>exact .nil
   |cons ok C r B ih=>exact .cons ok C (r.extR ER) ih
  exact go BD
 have rel':=rel.pure (g:=g) (tk:=tk) (nx:=nx) rfl kp fresh BD' H.plain.nd hH ⟨_,x.toInCall.ns⟩ (λy hy=>⟨_,x.cell y.1 y.2 (lookup_nodup hnd hy)⟩) (λy hy e=>Nat.lt_irrefl _ (e▸above y hy))
  (λy hy z hz e=>name_of_addr x.apart (c:=y.2) hy (e▸hz)) hpin
 refine ⟨(H.lim.keeps toH).keeps kp,codeAny_func ?_⟩
 have fo:FrOK ⟨fd.scope,none⟩ g:=⟨e2,s1,e3,e4,λn hn=>by
  show (env.cells.lookup n).isSome=true
  have:fd.scope.names.lookup n=some .cell:=by rw[← e2];exact hn
  rw[e1];exact cellsFrom_has (.inl (PySem.mem_of_lookup this)),rfl⟩
 have cont:∀(v':AV) (s1:St) (w1:Wd) (σ1:Shared) (d:CD) (rv:Value),coverA .nil v' r=true->Rel c g w1 s1 σ1->Ext (w.pure c g) h' w1 σ1.heap->Conc c.ρ v' d->Rd c.wo.params w1 σ1.heap d rv->Rs (.ok (.ret rv)) σ1:=by
  intro v' s1 w1 σ1 d rv hcv rel1 X1 C1 r1
  have Cr:=(coverA_conc (bd:=.nil) (ρ:=c.ρ) trivial v').1 _ _ hcv C1
  obtain ⟨i,rfl⟩:=intA_conc hr Cr
  have kk:∀a o,σ.heap.get? a=some o->σ1.heap.get? a=some o:=λa o e=>X1.keep a o (kp a o e) λq=>by rw[fresh a q] at e;cases e
  obtain ⟨h1,tk1,e1⟩:=rel1.rest
  obtain ⟨h2,tk2,e2⟩:=rel.rest
  have eσ:σ1={σ with heap:=h1,toks:=tk1}:=by rw[e1,e2]
  have hh:σ1.heap=h1:=by rw[e1]
  rw[hh] at kk
  have R:=rel.grow (tk:=tk1) kk
  cases r1
  rw[eσ]
  exact post r s w _ (.int i) _ hk R (.grow kk) Cr (.int i _)
 refine B g (w.pure c g) _ {σ with heap:=h',toks:=tk} (A.deeper env) _ _ _ _ _ fo hb rel' rm.deeper ?_ ?_ ?_
 · intro s1 w1 σ1 hk rel1 X1
   exact cont .none s1 w1 σ1 .none .none hk rel1 X1 .none .none
 · intro v1 s1 w1 σ1 d rv hk rel1 X1 C1 r1
   exact cont v1 s1 w1 σ1 d rv hk rel1 X1 C1 r1
 · intro s1 w1 σ1 hk rel1 X1
   exact nomatch hk
end
def tIdxL (o i:C):A:=λv s k=>o s λo s=>i s λx s=>isLoc o λp=>isNat x λn=>HT.get p s.hp λob=>isList ob λxs=>setA v xs n λxs'=>k (setO p (.list xs') s)
theorem setA_true {ρ:Rho} {v:AV} {d:CD} (C:Conc ρ v d) {xs:AV} {ds:List CD} {n:Nat} {k:AV->Bool} (X:ConcL ρ xs ds) (h:setA v xs n k=true):n<ds.length∧∃xs',k xs'=true∧ConcL ρ xs' (ds.set n d):=by
 induction X using ConcL.ind generalizing n k with
 |nil=>exact fF h
 |@cons a t da ds A T ih=>cases n with
  |zero=>exact ⟨Nat.zero_lt_succ _,_,h,.cons C T⟩
  |succ n=>
   obtain ⟨h1,xs',h2,h3⟩:=ih (show setA v t n (λr=>k (.cons a r))=true from h)
   exact ⟨Nat.succ_lt_succ h1,_,h2,.cons A h3⟩
theorem RdL.set {Pm:Params} {w:Wd} {h:Heap} {d:CD} {v:Value} (r:Rd Pm w h d v) {ds:List CD} {vs:List Value} (n:Nat) (x:RdL Pm w h ds vs):RdL Pm w h (ds.set n d) (vs.set n v):=by
 induction x using RdL.ind generalizing n with
 |nil=>exact .nil
 |cons a b ih=>cases n with
  |zero=>exact .cons r b
  |succ n=>exact .cons a (ih n)
section
variable {c:Cf} {lvl:Nat} {x:Cx}
theorem sound_tIdxL {o i:Expr} {a b:C} {pos:Pos} (H:SoundE c lvl x o a) (J:SoundE c lvl x i b):SoundA c lvl x (.Subscript o i pos) (tIdxL a b):=by
 intro f w s σ A Q E k v d rv fo h rel rm C r post
 show wpAny _ A (holding [rv] (eval o f.cur)>>= λov=>holding [rv,ov] (eval i f.cur)>>= λiv=>standAt pos>>= λU=>holding [rv,ov,iv] (setItem ov iv rv)>>= λU=>release _ []) Q E σ
 refine wpAny_bind (wpAny_holding (H f w s σ A _ E _ fo h rel rm ?_))
 intro o1 s1 w1 σ1 d1 rv1 e1 rel1 X1 C1 r1
 refine wpAny_bind (wpAny_holding (J f w1 s1 σ1 A _ E _ fo e1 rel1 rm ?_))
 intro i2 s2 w2 σ2 d2 rv2 e2 rel2 X2 C2 r2
 obtain ⟨p,rfl,g⟩:=isLoc_true e2
 obtain ⟨n,rfl,g⟩:=isNat_true g
 obtain ⟨ob,ho,g⟩:=HT.get_true g
 cases ob with
 |dict ep kvs=>exact fF g
 |inst q kvs=>exact fF g
 |list xs=>
  have g:setA v xs n (λxs'=>k (setO p (.list xs') s2))=true:=g
  cases C1
  cases r1.ext X2 with
  |@loc _ ad b hp=>
  cases C2
  cases r2 with
  |int _ t=>
  obtain ⟨a',b',he',hb,nb,ds,vs,m,rfl,g1,Cx,rx,sz⟩:=rel2.obj p _ ho
  rw[hp] at he'
  cases he'
  obtain ⟨hn,xs',hk,C'⟩:=setA_true C Cx g
  have len:vs.size=ds.length:=by have:=rx.length;simpa using this
  refine wpAny_bind (wpAny_standAt (wpAny_bind (wpAny_holding (ki_setAt (n:=m) g1 (by omega) (by omega) (by omega) (wpAny_release' ?_)))))
  have rr:=r.ext (X1.trans X2)
  have hnew:(σ2.heap.update ad (Obj.mapSeq (·.setIfInBounds ((n:Int)).toNat rv))).get? ad=some (lObj (vs.setIfInBounds n rv) (if (vs.setIfInBounds n rv).size==vs.size then m else m+1)):=by
   have:=Heap.get?_update_self (Obj.mapSeq (·.setIfInBounds ((n:Int)).toNat rv)) g1 rfl
   rw[this]
   rfl
  have sb:Heap.SameBut ad σ2.heap (σ2.heap.update ad (Obj.mapSeq (·.setIfInBounds ((n:Int)).toNat rv))):=Heap.SameBut.update ..
  have E':Ext w2 σ2.heap w2 (σ2.heap.update ad (Obj.mapSeq (·.setIfInBounds ((n:Int)).toNat rv))):=.write hb sb ⟨_,hnew⟩
  have rel3:=rel2.write (tk:=σ2.toks) ho hp sb (o':=.list xs') ⟨ds.set n d,_,_,rfl,hnew,C',by
   rw[Array.toList_setIfInBounds]
   exact ((rx.set rr n).ext E'),by rw[Array.size_setIfInBounds];exact sz⟩
  exact post _ w2 _ hk rel3 ((X1.trans X2).trans E')
end
noncomputable def clsA:Nat->Addr
 |1=>513
 |4=>659
 |9=>1614
 |_=>410
structure Base (c:Cf):Prop where
 K:c.K=Kf c.wo.params
 kin:c.K.In c.base
 cls:c.cls=clsA
 bn:∃mb,c.base.Ns builtinsNs mb∧∀x:Str,x≠"__name__"->mb x=bootBuiltins x
 lim:c.base.NoLimit
 pin:∀p a,c.pin p=some a->p.toNat<3
section
variable {c:Cf}
theorem Base.get (B:Base c) {a:Addr} {g:Params->Obj} (h:(λP=>(Kf P).lookup a)=λP=>some (g P)):c.base.get? a=some (g c.wo.params):=B.kin a _ (by rw[B.K];exact congrFun h c.wo.params)
noncomputable def mainEs (P:Params):Array DictEntry:=match (Kf P).lookup 3 with|some ⟨_,_,.dict es _,_⟩=>es|_=>#[]
noncomputable def strKeys (es:Array DictEntry):Bool:=es.toList.all λe=>match e.key with| .str ..=>true|_=>false
theorem main_str:(λP=>strKeys (mainEs P))=λU=>true:=by kernel_rfl
noncomputable def main3 (P:Params):Obj:=((Kf P).lookup 3).getD default
theorem main_3:(λP=>(Kf P).lookup 3)=λP=>some (main3 P):=by kernel_rfl
theorem main_es:(λP=>(main3 P).data)=λP=>.dict (mainEs P) 219:=by kernel_rfl
theorem Base.main (B:Base c):c.base.Ns mainGlobals (nsFind (mainEs c.wo.params)):=by
 refine ⟨_,mainEs c.wo.params,219,B.get main_3,congrFun main_es _,λe he=>?_,λU=>rfl⟩
 have:=List.all_eq_true.mp (congrFun main_str c.wo.params) e (Array.mem_toList_iff.mpr he)
 revert this
 cases e.key<;>intro h<;>first|exact ⟨_,_,rfl⟩|cases h
theorem nsFind_list (es:Array DictEntry) (n:Str):nsFind es n=(es.toList.find? λe=>e.key.isStr n).map (·.val):=by
 obtain ⟨l⟩:=es
 simp only[nsFind,findBy,List.find?_toArray]
def lookC (k:Nat) (l:List (Nat×Value)):Option Value:=List.rec none (λx U ih=>Bool.rec ih (some x.2) (Nat.beq x.1 k)) l
theorem lookC_find {Pm:Params} {n:Str} (hn:okS n=true):∀(l:List (Str×Tok×Value)),(l.all λe=>okS e.1)=true->
  ((l.map λe=>(⟨PyData.keyHash Pm e.1,.str e.1 e.2.1,e.2.2⟩:DictEntry)).find? λe=>e.key.isStr n).map (·.val)=lookC (sc n) (l.map λe=>(sc e.1,e.2.2))
 |[],_=>rfl
 |(m,t,v)::l,h=>by
  rw[List.all_cons,Bool.and_eq_true] at h
  show ((List.find? _ (_::_)).map _:Option Value)=Bool.rec (lookC (sc n) _) (some v) (Nat.beq (sc m) (sc n))
  rw[List.find?_cons]
  cases q:Nat.beq (sc m) (sc n) with
  |true=>
   have e:m=n:=sc_inj h.1 hn (Nat.eq_of_beq_eq_true q)
   have:Value.isStr (.str m t) n=true:=by show (m==n)=true;rw[e];exact beq_self_eq_true _
   rw[this]
   rfl
  |false=>
   have:Value.isStr (.str m t) n=false:=by
    show (m==n)=false
    cases z:m==n with
    |false=>rfl
    |true=>rw[eq_of_beq z,Nat.beq_refl] at q;cases q
   rw[this]
   exact lookC_find hn l h.2
noncomputable def mainEs' (P:Params):Array DictEntry:=(mainL.map λe=>(⟨PyData.keyHash P e.1,.str e.1 e.2.1,e.2.2⟩:DictEntry)).toArray
theorem mainEs_eq:mainEs=mainEs':=by kernel_rfl
theorem mainL_ok:(mainL.all λe=>okS e.1)=true:=by decide +kernel
theorem mainC_eq:(mainL.map λe=>(sc e.1,e.2.2))=mainC:=by kernel_rfl
theorem ns_of {n:Str} {k:Nat} {r:Option Value} (ho:okS n=true) (hk:sc n=k) (h:lookC k mainC=r):(λP=>nsFind (mainEs P) n)=λU=>r:=by
 funext P
 rw[mainEs_eq,nsFind_list]
 show ((List.find? _ (List.map _ mainL).toArray.toList).map _:Option Value)=r
 rw[lookC_find (Pm:=P) ho mainL mainL_ok,mainC_eq,hk,h]
theorem Base.glob (B:Base c) {n:Str} {k:Nat} {rv:Value} (ho:okS n=true) (hk:sc n=k) (h':lookC k mainC=some rv):GlobV c n rv:=by
 have h:=ns_of ho hk h'
 obtain ⟨mb,hb,_⟩:=B.bn
 exact ⟨_,mb,B.main,hb,.inl (congrFun h _)⟩
theorem Base.builtin (B:Base c) {n:Str} {k:Nat} {rv:Value} (ho:okS n=true) (hk:sc n=k) (h1':lookC k mainC=none) (h2:n≠"__name__") (h3:bootBuiltins n=some rv):GlobV c n rv:=by
 have h1:=ns_of ho hk h1'
 obtain ⟨mb,hb,hm⟩:=B.bn
 exact ⟨_,mb,B.main,hb,.inr ⟨congrFun h1 _,(hm n h2).trans h3⟩⟩
noncomputable def plainOk (p:Arguments) (ns:List Str):Bool:=p.posonlyargs.isEmpty&&(p.args.map (·.arg)==ns)&&p.vararg.isNone&&p.kwonlyargs.isEmpty&&p.kwarg.isNone&&decide ns.Nodup
noncomputable def psOk (l:NL):List Str->Bool:=by
 induction l with
 |nil=>exact List.isEmpty
 |cons k _ f=>
  intro ns
  cases ns with
  |nil=>exact false
  |cons n ns=>exact okS n&&Nat.beq (sc n) k&&f ns
theorem ps_of {ps:NL} {ns:List Str} (h:psOk ps ns=true):PsAt ps ns:=by
 induction ps generalizing ns with
 |nil=>cases ns with
  |nil=>exact .nil
  |cons=>exact fF h
 |cons k l ih=>cases ns with
  |nil=>exact fF h
  |cons n ns=>
   have h:(okS n&&Nat.beq (sc n) k&&psOk l ns)=true:=h
   rw[Bool.and_eq_true,Bool.and_eq_true] at h
   obtain ⟨⟨h1,h2⟩,h3⟩:=h
   have:=Nat.eq_of_beq_eq_true h2
   subst this
   exact .cons h1 (ih h3)
theorem ds_nil {ns:List Str} {dv:List Value}:DsAt c .nil ns dv:=λj n v U e=>nomatch (show (none:Option AV)=some v from e)
noncomputable abbrev fdA (i:Nat) (nm q:Str) (cd:Addr) (df doc mv:Value):FuncData:={name:=nm,qualname:=q,params:=(fnA i).1,body:=.stmts (fnA i).2.1,scope:=(fnA i).2.2,globals:=3,closure:=[],defaults:=df,kwdefaults:=.none,doc:=doc,pyModule:=mv,annotations:=none,code:=.ref cd,closureTuple:=.none,builtins:=0}
end
noncomputable def codeName:Option Obj->Option Str
 |some ⟨_,_,.fields vs,_⟩=>(match (vs[1]?:Option Value) with|some (.str q _)=>some q|_=>none)
 |_=>none
noncomputable def attL:List Str:=["seq","time","body","told","wanted","adv","last","options","rows","interfaces","count","out","number","ending","id","bases","now","came_rows","origins","config","password"]
section
variable {c:Cf}
set_option tactic.hygienic true in
theorem code_of (B:Base c) {cd:Addr} {q:Str} (h:(λP=>codeName ((Kf P).lookup cd))=λU=>some q):c.base.CodeRec (.ref cd) q:=by
 have h:=congrFun h c.wo.params
 cases e:(Kf c.wo.params).lookup cd with
 |none=>rw[e] at h;cases h
 |some o=>
  rw[e] at h
  obtain ⟨cl,di,dt,sl⟩:=o
  cases dt with
  |fields vs=>
   have h:(match (vs[1]?:Option Value) with|some (.str q _)=>some q|_=>none)=some q:=h
   split at h
   · rename_i q' t hv
     cases h
     exact ⟨cd,_,vs,t,rfl,B.kin cd _ (by rw[B.K];exact e),rfl,hv⟩
   · cases h
  |_=>cases h
theorem fnAt_of' (B:Base c) {i:Nat} {a cd:Addr} {nm q:Str} {df doc mv:Value} {ns:List Str} {dv:List Value} (h1:(λP=>(Kf P).lookup a)=λU=>some (fo i nm q cd df doc mv)) (h2:(λP=>codeName ((Kf P).lookup cd))=λU=>some q)
  (hp:plainOk (fnA i).1 ns=true) (hs:plainScope (fnA i).2.2 ns=true) (hd:Dflt c.base (fdA i nm q cd df doc mv) dv) (hl:dv.length≤ns.length):FnAt c a (fdA i nm q cd df doc mv) (fnA i).2.1 ns dv where
 at_:=⟨_,B.get h1,rfl⟩
 code:=code_of B h2
 gl:=rfl
 bi:=rfl
 clo:=rfl
 body:=rfl
 plain:=by
  unfold plainOk at hp
  simp only[Bool.and_eq_true,List.isEmpty_iff,Option.isNone_iff_eq_none,decide_eq_true_eq,beq_iff_eq] at hp
  obtain ⟨⟨⟨⟨⟨p1,p2⟩,p3⟩,p4⟩,p5⟩,p6⟩:=hp
  exact ⟨p1,p2,p3,p4,p5,p6⟩
 dflt:=hd
 dl:=hl
 scope:=hs
 lim:=B.lim
theorem Base.keep (B:Base c) {a:Addr} (h:(λP=>keepIn (Kf P) (.ref a))=λU=>true):keepIn c.K (.ref a)=true:=by rw[B.K];exact congrFun h _
theorem Base.kls (B:Base c) {q:Nat} {a fI:Addr} (hc:clsA q=a) (h:(λP=>(makesIn (Kf P) a,findIn (Kf P) (.ref a) "__init__",typeIn (Kf P) (.ref fI),keepIn (Kf P) (.ref a)))=λU=>(true,some (some (.ref fI)),some (.type "function"),true)):KlsAt c q fI:=by
 have h:=congrFun h c.wo.params
 simp only[Prod.mk.injEq] at h
 obtain ⟨h1,h2,h3,h4⟩:=h
 exact ⟨by rw[B.K,B.cls,hc];exact h1,by rw[B.K,B.cls,hc];exact h2,by rw[B.K];exact h3,by rw[B.K,B.cls,hc];exact h4⟩
theorem Base.ms (B:Base c) {m:Nat} {n:Str} {q:Nat} {C a:Addr} {F:F} {ml:ML} (hc:clsA q=C) (h:(λP=>(findIn (Kf P) (.ref C) n,typeIn (Kf P) (.ref a),keepIn (Kf P) (.ref a)))=λU=>(some (some (.ref a)),some (.type "function"),true)) (sf:SoundFn c m a F) (r:MsAt c m n ml):MsAt c m n (.cons q F ml):=by
 have h:=congrFun h c.wo.params
 simp only[Prod.mk.injEq] at h
 obtain ⟨h1,h2,h3⟩:=h
 exact .cons (by rw[B.K,B.cls,hc];exact h1) (by rw[B.K];exact h2) (by rw[B.K];exact h3) sf r
theorem Base.globC (B:Base c) {n:Str} {k:Nat} {v:AV} {rv:Value} {d:CD} (ho:okS n=true) (hk:sc n=k) (h:lookC k mainC=some rv) (C:Conc c.ρ v d) (r:Rd c.wo.params w0 c.base d rv):∃rv d,GlobV c n rv∧Conc c.ρ v d∧Rd c.wo.params w0 c.base d rv:=⟨rv,d,B.glob ho hk h,C,r⟩
abbrev CstP (c:Cf) (n:Str) (v:AV):Prop:=∃rv d,GlobV c n rv∧Conc c.ρ v d∧Rd c.wo.params w0 c.base d rv
noncomputable def Base.eI (B:Base c) (n:Str) (k m:Nat) (t:Tok) (ho:okS n=true) (hk:sc n=k) (h:lookC k mainC=some (.int m t)):Ent (CstP c):=.of n k (.nat m) ho hk (B.globC ho hk h (.nat m) (.int _ t))
noncomputable def Base.eN (B:Base c) (n:Str) (k m:Nat) (t:Tok) (ho:okS n=true) (hk:sc n=k) (h:lookC k mainC=some (.int (Int.negSucc m) t)):Ent (CstP c):=.of n k (.neg m) ho hk (B.globC ho hk h (.neg m) (.int _ t))
noncomputable def Base.eV (B:Base c) (n:Str) (k:Nat) (v:AV) (rv:Value) (d:CD) (ho:okS n=true) (hk:sc n=k) (h:lookC k mainC=some rv) (C:Conc c.ρ v d) (r:Rd c.wo.params w0 c.base d rv):Ent (CstP c):=.of n k v ho hk (B.globC ho hk h C r)
abbrev FnP (c:Cf) (L:Nat) (n:Str) (F:F):Prop:=∃a,GlobV c n (.ref a)∧keepIn c.K (.ref a)=true∧SoundFn c L a F
noncomputable def Base.eF (B:Base c) {L:Nat} (n:Str) (k:Nat) (a:Addr) (F:F) (ho:okS n=true) (hk:sc n=k) (h:lookC k mainC=some (.ref a)) (hp:(λP=>keepIn (Kf P) (.ref a))=λU=>true) (sf:SoundFn c L a F):Ent (FnP c L):=.of n k F ho hk ⟨a,B.glob ho hk h,B.keep hp,sf⟩
abbrev KlP (c:Cf) (L:Nat) (n:Str) (q:Nat×F):Prop:=∃fI m,GlobV c n (.ref (c.cls q.1))∧KlsAt c q.1 fI∧SoundFn c m fI q.2∧m+1≤L
theorem Base.tupR (B:Base c) {a:Addr} {vs:List Value} {n:Nat} {ds:List CD} (h:(λP=>(Kf P).lookup a)=λU=>some (to vs n)) (hl:vs.length≤10000) (r:RdL c.wo.params w0 c.base ds vs):Rd c.wo.params w0 c.base (.tup ds) (.ref a):=
 .tup (B.get h) rfl rfl ⟨id,by simpa using hl⟩ (by simpa using r)
theorem clsA_cases (k:Nat):clsA k=410∨clsA k=513∨clsA k=659∨clsA k=1614:=by
 unfold clsA
 split<;>simp
noncomputable def cls4:List Addr:=[410,513,659,1614]
theorem clsA_mem (k:Nat):clsA k∈cls4:=by
 rcases clsA_cases k with h|h|h|h<;>rw[h]<;>decide
theorem cls_facts:(λP=>cls4.all λa=>hasDictIn (Kf P) a&&(findIn (Kf P) (.ref a) "__getattribute__"==some (some (.builtin "object.__getattribute__")))&&(findIn (Kf P) (.ref a) "__getattr__"==some none)&&(findIn (Kf P) (.ref a) "__setattr__"==some (some (.builtin "object.__setattr__")))&&plainOver (Kf P) a&&attL.all λn=>findIn (Kf P) (.ref a) n==some none)=λU=>true:=by kernel_rfl
theorem sys_1:(λP=>((Kf P).lookup 1).isSome)=λU=>true:=by kernel_rfl
theorem Base.ok (B:Base c) (ha:c.att=attL):CfOK c:=by
 have f:∀k,_:=λk=>List.all_eq_true.mp (congrFun cls_facts c.wo.params) (clsA k) (clsA_mem k)
 simp only[Bool.and_eq_true,beq_iff_eq,List.all_eq_true] at f
 refine ⟨?_,B.kin,λk=>?_,λk=>?_,λk=>?_,λk=>?_,λk=>?_,λk n hn=>?_⟩
 · have:=congrFun sys_1 c.wo.params
   obtain ⟨o,e⟩:=Option.isSome_iff_exists.mp this
   exact ⟨o,B.kin 1 o (by rw[B.K];exact e)⟩
 · rw[B.K,B.cls];exact (f k).1.1.1.1.1
 · rw[B.K,B.cls];exact (f k).1.1.1.1.2
 · rw[B.K,B.cls];exact (f k).1.1.1.2
 · rw[B.K,B.cls];exact (f k).1.1.2
 · rw[B.K,B.cls];exact (f k).1.2
 · rw[B.K,B.cls];exact (f k).2 n (ha▸hn)
theorem Base.ak (B:Base c) {n:Str} {q:Nat} {a:Addr} (hc:clsA q=a) (h:(λP=>findIn (Kf P) (.ref a) n)=λU=>some none):findIn c.K (.ref (c.cls q)) n=some none:=by rw[B.K,B.cls,hc];exact congrFun h _
noncomputable def upF {L:Nat} (l:List (Ent (FnP c L))):List (Ent (FnP c (L+1))):=
 l.map λe=>⟨e.k,e.v,λn h1 h2=>by obtain ⟨a,g,k,s⟩:=e.h n h1 h2;exact ⟨a,g,k,s.up (Nat.le_succ L)⟩⟩
noncomputable def upM {L:Nat} (l:List (Ent (λn ml=>MsAt c L n ml))):List (Ent (λn ml=>MsAt c (L+1) n ml)):=l.map λe=>⟨e.k,e.v,λn h1 h2=>(e.h n h1 h2).up (Nat.le_succ L)⟩
noncomputable def upK {L:Nat} (l:List (Ent (KlP c L))):List (Ent (KlP c (L+1))):=
 l.map λe=>⟨e.k,e.v,λn h1 h2=>by obtain ⟨a,m,g,k,s,z⟩:=e.h n h1 h2;exact ⟨a,m,g,k,s,Nat.le_succ_of_le z⟩⟩
end
noncomputable def cn (n:Nat):C:=cst (.nat n)
noncomputable def V1:C:=var 6230994022
noncomputable def V2:C:=var 1539468258916
noncomputable def V3:C:=var 1552200852325
noncomputable def V4:C:=var 5929854305
noncomputable def V5:C:=var 402925602104690
noncomputable def V6:C:=var 405111606503800
noncomputable def V7:A:=tVar 1539468258916
noncomputable def V8:C:=var 5946434681
noncomputable def V9:C:=var 390805221435751
noncomputable def V10:C:=cst (.str 99471049357620083)
noncomputable def V11:C:=var 24079973
noncomputable def V12:C:=var 23815545
def F1:F:=fnD (.cons 400657876481128 (.cons 5946045555 .nil)) .nil (retS (bin oShl (bin oSub (bin oShl (cn 1) (var 400657876481128)) (cn 1)) (bin oSub (var 5946045555) (var 400657876481128))))
def F6:F:=fnD (.cons 24339825 .nil) .nil (retS (bin oMod (var 24339825) (bin oShl (cn 1) (cn 32))))
def F8:F:=fnD (.cons 6046441828 (.cons 104538694105326707 (.cons 102845536123578213 .nil))) (.cons 102845536123578213 (.nat 3600) .nil) (retS (bin oAdd (tupE (.cons (bin bMin (bin oAdd (idx (var 6046441828) (cn 0)) (var 104538694105326707)) (var 102845536123578213)) .nil)) (cutFrom (var 6046441828) (cn 1))))
def F9:F:=fnD (.cons 6046441828 .nil) .nil (retS (tupE (.cons (idx (var 6046441828) (cn 2)) (.cons (idx (var 6046441828) (cn 3)) (.cons (idx (var 6046441828) (cn 4)) .nil)))))
def F10:F:=fnD (.cons 6214874995 .nil) .nil (sq (asgR (.cons (tVar 104538741164831347) (.cons V7 .nil)) (.cons (dctE .nil) (.cons (dctE .nil) .nil))) (sq (forS (tTup (.cons (tVar 6046441828) (.cons (tVar 5946434681) .nil))) (itE (var 6214874995)) (sq (asg (tTup (.cons (tVar 23160677) (.cons (tVar 103424961740238451) (.cons (tVar 6097038948) (.cons (tVar 1565303728484) (.cons (tVar 23159926) .nil)))))) (cutTo (var 6046441828) (cn 5))) (sq (ifS (orT (cmp cGe (var 23160677) (cn 3600)) (orT (cmp cNi (var 6097038948) (tupE (.cons (cn 1) (.cons (cn 2) .nil)))) (anT (cmp cEq (var 6097038948) (cn 1)) (cmp cNe (var 1565303728484) (var 23159926))))) cntS skip) (sq (asg (tVar 6231715700) (iteC (cmp cEq (var 6097038948) (cn 1)) (tupE (.cons (cn 1) (.cons (var 23159926) .nil))) (tupE (.cons (cn 0) (.cons (var 1565303728484) .nil))))) (ifS (orT (cmp cNi (var 6231715700) V2) (cmp cGt (var 23159926) (idx (var 104538741164831347) (var 6231715700)))) (asg (tTup (.cons (tIdx V2 (var 6231715700)) (.cons (tIdx (var 104538741164831347) (var 6231715700)) .nil))) (tupE (.cons V8 (.cons (var 23159926) .nil)))) skip))))) (retS V2)))
def F11:F:=fnD (.cons 5946434681 .nil) .nil (sq (ifS (cmp cEq (idx V8 (cn 0)) (cst (.str 103131392370504299))) (retS (lc (tupE (.cons (tupE (.cons (cn 1) (.cons (cvar 401757371000178) .nil))) (.cons (cn 0) (.cons (cn 0) .nil)))) (tCvar 401757371000178) (itE (idx V8 (cn 2))) yes)) skip) (sq (asg V7 (lstE .nil)) (sq (forS (tTup (.cons (tVar 102572814491412836) (.cons (tVar 5979075681) (.cons (tVar 6231650932) (.cons (tVar 401757489490275) .nil))))) (itE (idx V8 (cn 2))) (ifS (cmp cEq (var 6231650932) (cn 1)) (exS (mApp V2 (tupE (.cons (tupE (.cons (cn 1) (.cons (var 102572814491412836) .nil))) (.cons (var 401757489490275) (.cons (var 5979075681) .nil)))))) (ifS (cmp cEq (var 6231650932) (cn 2)) (exS (mApp V2 (tupE (.cons (tupE (.cons (cn 0) (.cons (var 102572814491412836) .nil))) (.cons (var 401757489490275) (.cons (var 5979075681) .nil)))))) skip))) (retS V2))))
def F15:F:=fnD (.cons 6147110003 (.cons 405111606503800 (.cons 5963215732 (.cons 6047101043 .nil)))) .nil (sq (asg (tVar 1560925927278) (mGet (var 6147110003) V6 (cst .none))) (ifS (orT (isN (var 1560925927278)) (cmp cLt (var 5963215732) (idx (var 1560925927278) (cn 0)))) (asg (tIdx (var 6147110003) V6) (tupE (.cons (var 5963215732) (.cons (b1 bTuple (b1 bSorted (var 6047101043))) .nil)))) (ifS (cmp cEq (var 5963215732) (idx (var 1560925927278) (cn 0))) (asg (tIdx (var 6147110003) V6) (tupE (.cons (var 5963215732) (.cons (b1 bTuple (b1 bSorted (bin oAdd (b1 bList (idx (var 1560925927278) (cn 1))) (lc (cvar 23621488) (tCvar 23621488) (itE (var 6047101043)) (cmp cNi (cvar 23621488) (idx (var 1560925927278) (cn 1))))))) .nil)))) skip)))
def F19:F:=fnD (.cons 6214874995 (.cons 6097038948 (.cons 104268291637604979 (.cons 24082286 .nil)))) .nil (sq (asg V7 (lstE .nil)) (sq (forS (tTup (.cons (tVar 6046441828) (.cons (tVar 5946434681) .nil))) (itE (var 6214874995)) (sq (asg (tTup (.cons (tVar 23160677) (.cons (tVar 103424961740238451) (.cons (tVar 6231650932) (.cons (tVar 1565303728484) (.cons (tVar 23159926) .nil)))))) (cutTo (var 6046441828) (cn 5))) (sq (ifS (orT (cmp cNe (var 6231650932) (var 6097038948)) (orT (cmp cGe (var 23160677) (cn 3600)) (orT (cmp cEq (var 23159926) (var 24082286)) (cmp cGe (idx V8 (cn 2)) (cn 16777215))))) cntS skip) (ifS (anT (cmp cIn (var 23159926) (var 104268291637604979)) (cmp cNe (bin oAnd (idx (idx (var 104268291637604979) (var 23159926)) (cn 2)) (cn 1)) (cn 0))) (exS (mApp V2 (tupE (.cons (var 1565303728484) (.cons V8 (.cons (idx (var 104268291637604979) (var 23159926)) .nil)))))) skip)))) (retS V2)))
def F24:F:=fnD (.cons 1599361674341 (.cons 1591007868005 .nil)) .nil (sq (asg (tVar 1560925927278) (mGet (var 1599361674341) (idx (var 1591007868005) (cn 0)) (cst .none))) (ifS (orT (isN (var 1560925927278)) badT) (asg (tIdx (var 1599361674341) (idx (var 1591007868005) (cn 0))) (var 1591007868005)) badS))
def F25:F:=fnD (.cons 6147110003 (.cons 6231650932 (.cons 5929854305 .nil))) .nil (retS (lc (tupE (.cons (cvar 405111606503800) (.cons (var 6231650932) (.cons (idx (idx (var 6147110003) (cvar 405111606503800)) (cn 0)) (.cons (cn 0) (.cons V4 (.cons (idx (idx (var 6147110003) (cvar 405111606503800)) (cn 1)) .nil))))))) (tCvar 405111606503800) (itE (b1 bSorted (var 6147110003))) yes))
def F34:F:=fnD (.cons 1518042702195 .nil) .nil (sq (asg V7 (dctE .nil)) (sq (forS (tTup (.cons (tVar 5929854305) (.cons (tVar 104268291637604979) (.cons (tVar 404020735079027) .nil)))) (itE (var 1518042702195)) (sq (forS (tVar 402925602104690) (itE (b1 bSorted (var 104268291637604979))) (sq (asg (tTup (.cons (tVar 5963215732) (.cons (tVar 6047101043) (.cons (tVar 1539416614771) .nil)))) (idx (var 104268291637604979) V5)) (ifS (cmp cNe (bin oAnd (var 1539416614771) (cn 2)) (cn 0)) (exS (mApp (mSetd V2 V5 (lstE .nil)) (tupE (.cons (var 5963215732) (.cons (var 6047101043) (.cons V4 (.cons (cst (.bool true)) .nil))))))) skip))) (forS (tVar 402925602104690) (itE (b1 bSorted (var 404020735079027))) (sq (asg (tTup (.cons (tVar 5963215732) (.cons (tVar 6047101043) .nil))) (idx (var 404020735079027) V5)) (ifS (orT (cmp cNi V5 (var 104268291637604979)) (cmp cEq (bin oAnd (idx (idx (var 104268291637604979) V5) (cn 2)) (cn 2)) (cn 0))) (exS (mApp (mSetd V2 V5 (lstE .nil)) (tupE (.cons (var 5963215732) (.cons (var 6047101043) (.cons V4 (.cons (cst (.bool false)) .nil))))))) skip))))) (retS V2)))
def F35:F:=fnD (.cons 405111606503800 (.cons 407237766374771 (.cons 5946045555 .nil))) .nil (sq (asg V7 (cst .none)) (sq (forS (tVar 24079973) (itE (var 407237766374771)) (ifS (anT badT (orT (isN V2) (cmp cGt (idx (idx V11 (cn 0)) (cn 1)) (idx (idx V2 (cn 0)) (cn 1))))) (asg V7 V11) skip)) (retS V2)))
def F40:F:=fnD (.cons 5929854305 (.cons 102568360493543015 .nil)) .nil (sq (asg V7 (dctE .nil)) (sq (forS (tVar 402925602104690) (itE (b1 bSorted (var 102568360493543015))) (sq (asg (tTup (.cons (tVar 5963215732) (.cons (tVar 6047101043) (.cons (tVar 6047100261) (.cons (tVar 26045265976443040353) .nil))))) (idx (var 102568360493543015) V5)) (ifS (anT (cmp cNe (var 6047100261) V4) (anT (cmp cLt (var 5963215732) (cn 16777215)) (orT (tstT (var 26045265976443040353)) (cmp cNe V4 (cn 0))))) (asg (tIdx V2 V5) (var 5963215732)) skip))) (retS V2)))
def F44:F:=fnD (.cons 6097038948 .nil) .nil (retS (ofT (cmp cIn (var 6097038948) (cst (.tup (.cons (.str 6538393318619711894388) (.cons (.str 6146911585) .nil)))))))
def F48:F:=fnD (.cons 1595385410661 .nil) .nil (retS (ofT (cmp cNi (var 1595385410661) (tupE (.cons (cst (.str 5979993966)) (.cons (cst (.str 26260330480698221419)) .nil))))))
def F50:F:=fnD (.cons 1552200852325 .nil) .nil (retS (b1 bSorted (lc (idx (cvar 24079973) (cst (.str 407298014209394))) (tCvar 24079973) (itE (idx V3 (cst (.str 1730256849035803382608499)))) (cmp cEq (idx (cvar 24079973) (cst (.str 1595385410661))) (cst (.str 6013938796))))))
def F56:F:=fnD (.cons 6230994022 (.cons 5946434681 (.cons 24339825 (.cons 6248033637 .nil)))) .nil (sq (asg (tAttr 5946434681 V1) V8) (sq (asg (tAttr 24339825 V1) (var 24339825)) (sq (asg (tAttr 6248033637 V1) (var 6248033637)) (asg (tAttrK 0 6667588085571102797415 V1) (cst (.bool false))))))
def F57:F:=fnD (.cons 6230994022 (.cons 23159926 (.cons 103424961740238451 .nil))) .nil (sq (asg (tAttr 23159926 V1) (var 23159926)) (sq (asg (tAttr 103424961740238451 V1) (var 103424961740238451)) (sq (asg (tAttr 412735325365604 V1) (dctE .nil)) (sq (asg (tAttr 6248426596 V1) (dctE .nil)) (asg (tAttr 6113293172 V1) (dctE .nil))))))
def F58:F:=fnD (.cons 6230994022 (.cons 412769768203635 .nil)) .nil (asg (tAttr 412735325365604 V1) (var 412769768203635))
def F59:F:=fnD (.cons 6230994022 (.cons 23815545 (.cons 23160677 .nil))) .nil (sq (asg (tVar 24079973) (idx (attr 6248426596 V1) V12)) (retS (tupE (.cons (tupE (.cons (var 23160677) (.cons (attr 103424961740238451 V1) (.cons (idx V12 (cn 0)) (.cons (idx V12 (cn 1)) (.cons (attr 23159926 V1) (.cons (attr 24339825 V11) (.cons (cn 0) .nil)))))))) (.cons (attr 5946434681 V11) .nil)))))
def F60:F:=fnD (.cons 6230994022 (.cons 23815545 .nil)) .nil (sq (asgR (.cons (tVar 5946434681) (.cons (tVar 24079973) .nil)) (.cons (mGet (attr 6248426596 V1) V12 (cst .none)) (.cons (mGet (attr 412735325365604 V1) V12 (cst .none)) .nil))) (sq (ifS (isN V11) (retS (iteC (isN V8) (cst .none) (cst (.str 24012151)))) skip) (sq (ifS (tstT (attrK 0 6667588085571102797415 V11)) (retS (iteC (anT (noT (isN V8)) (cmp cLt (attr 24339825 V11) (cn 2147483647))) (cst (.str 1578205996402)) (cst .none))) skip) (sq (ifS (isN V8) (retS (cst (.str 23424612))) skip) (retS (iteC (cmp cNe V8 (attr 5946434681 V11)) (cst (.str 1578205996402)) (cst .none)))))))
def F63:F:=fnD (.cons 6230994022 .nil) .nil (retS (b1 bSorted (b1 bDict (lc (tupE (.cons (cvar 23815545) (.cons (cst (.bool true)) .nil))) (tCvar 23815545) (itE (bin oAdd (b1 bList (attr 6248426596 V1)) (b1 bList (attr 412735325365604 V1)))) yes))))
def F72:F:=fnD (.cons 24079460 (.cons 24012151 .nil)) .nil (sq (ifS (isN (var 24079460)) (retS (cst (.bool true))) skip) (sq (ifS (orT (cmp cNe (idx (idx (var 24079460) (cn 0)) (cn 1)) (idx (idx (var 24012151) (cn 0)) (cn 1))) (cmp cNe (ofT (cmp cEq (idx (idx (var 24079460) (cn 0)) (cn 0)) (cn 3600))) (ofT (cmp cEq (idx (idx (var 24012151) (cn 0)) (cn 0)) (cn 3600))))) (retS (cst (.bool true))) skip) (retS (ofT (cmp cNe (idx (var 24079460) (cn 1)) (idx (var 24012151) (cn 1)))))))
def F73:F:=fnD (.cons 6230994022 .nil) .nil (asg (tAttr 6214874995 V1) (dctE .nil))
def F78:F:=fnD (.cons 6230994022 .nil) .nil (retS (b1 bSorted (attr 6214874995 V1)))
def F91:F:=fnD (.cons 1595385410661 (.cons 1535289683572 (.cons 1539232199795 .nil))) .nil (sq (ifS (cmp cIn (var 1535289683572) (tupE (.cons (cst (.str 6097038444)) (.cons (cst (.str 102576048485398382)) (.cons (cst (.str 26043860774912882277)) .nil))))) (retS (tupE (.cons (cst (.str 5979993966)) (.cons (cst (.tup (.cons (.str 429680551686274411622790259) (.cons (.str 1928703723134150664789632432919377017) .nil)))) .nil)))) skip) (sq (ifS (cmp cEq (var 1535289683572) (cst (.str 1595385410164))) (retS (iteC (cmp cEq (var 1595385410661) (cst (.str 5979993966))) (tupE (.cons (cst (.str 99488710045560948)) (.cons (tupE (.cons (cst (.str 1753869040883826864974959)) (.cons (cst (.str 493747869333551516667167113290732631161)) .nil))) .nil))) (tupE (.cons (var 1595385410661) (.cons (tupE .nil) .nil))))) skip) (sq (ifS (cmp cEq (var 1535289683572) (cst (.str 1547889831023))) badS skip) (sq (ifS (cmp cEq (var 1535289683572) (cst (.str 104840011563098489))) badS skip) (sq (ifS (cmp cEq (var 1535289683572) (cst (.str 103422698125222265))) badS skip) (sq (ifS (cmp cEq (var 1535289683572) (cst (.str 25464595159571590772))) badS skip) badS))))))
def F103:F:=fnD (.cons 1706811829399715066373491 (.cons 23815545 .nil)) .nil (forS (tVar 6667233708592636978021) (itE (var 1706811829399715066373491)) (forS (tVar 6758815816546106963314) (itE (idx (var 6667233708592636978021) (cst (.str 1730256849035803382608499)))) (exS (mPop (idx (var 6758815816546106963314) (cst (.str 6165063012))) V12 (cst .none)))))
def F104:F:=fnD (.cons 403947921962099 .nil) .nil (sq (asg (tTup (.cons (tVar 23883639) (.cons (tVar 6046705512) .nil))) (tupE (.cons (cn 0) (.cons (cn 0) .nil)))) (sq (forS (tVar 1577921570164) (itE (var 403947921962099)) (sq (asg (tVar 23883639) (bin oMod (bin oAdd (var 23883639) (var 1577921570164)) (cn 255))) (asg (tVar 6046705512) (bin oMod (bin oAdd (var 6046705512) (var 23883639)) (cn 255))))) (retS (tupE (.cons (var 23883639) (.cons (var 6046705512) .nil))))))
def F107:F:=fnD (.cons 402925602104690 (.cons 6231259749 .nil)) .nil (sq (ifS (orT (cmp cLt V5 (cn 0)) (cmp cNe (bin oShr V5 (bin oMul (cn 8) (var 6231259749))) (cn 0))) badS skip) (retS (b1 bBytes (lc (bin oAnd (bin oShr V5 (bin oMul (cn 8) (cvar 1582366286693))) (cn 255)) (tCvar 1582366286693) (itD (bin oSub (var 6231259749) (cn 1))) yes))))
def F139:F:=fnD (.cons 390805221435751 (.cons 407298014209394 .nil)) .nil (sq (asg V7 (dctE (.cons (cst (.str 407298014209394)) (var 407298014209394) (.cons (cst (.str 1595385410661)) (cst (.str 5979993966)) (.cons (cst (.str 91250)) (cn 0) (.cons (cst (.str 23225458)) (cn 0) (.cons (cst (.str 1683272269610885507806067)) (cn 0) (.cons (cst (.str 428434086593574984179086195)) (cn 0) (.cons (cst (.str 1730256849035803382608499)) (lstE .nil) .nil))))))))) (sq (exS (mUpd V2 (dctE (.cons (cst (.str 25969282039282622836)) (cst .none) (.cons (cst (.str 1772684364054696031447404)) (cst .none) (.cons (cst (.str 1530709959033)) (cn 1) .nil)))))) (sq (exS (mUpd V2 V9)) (sq (asg (tIdx V2 (cst (.str 103424961740238451))) (iteC (tstT (idx V2 (cst (.str 6231979362)))) (cn 0) (cn 2))) (retS V2)))))
def F147:F:=fnD (.cons 6146846053 (.cons 402925602104690 (.cons 1565068981108 (.cons 6130987892 .nil)))) .nil (ifS (noT (cmp2 cLe cLe (var 1565068981108) V5 (var 6130987892))) badS skip)
def F149:F:=fnD (.cons 390805221435751 .nil) .nil (sq (asgR (.cons (tVar 6518934690700989785459) (.cons (tVar 103148954138800755) .nil)) (.cons (lstE .nil) (.cons (lstE .nil) .nil))) (forS (tVar 24079973) (itE (idx V9 (cst (.str 1706811829399715066373491)))) (sq (ifS (orT (cmp cIn (idx V11 (cst (.str 402925602104690))) (var 103148954138800755)) (cmp cIn (idx V11 V10) (var 6518934690700989785459))) badS skip) (sq (ifS (cmp cNi (idx V11 (cst (.str 5929854305))) (idx V9 (cst (.str 1518042702195)))) badS skip) (sq (exS (mApp (var 103148954138800755) (idx V11 (cst (.str 402925602104690))))) (ifS (cmp cNe (idx V11 V10) (cn 0)) (exS (mApp (var 6518934690700989785459) (idx V11 V10))) skip))))))
def F152:F:=fnD (.cons 6230994022 .nil) .nil (retS (b1 bSorted (b1 bDict (lc (tupE (.cons (idx (cvar 1552200852325) (cst (.str 5929854305))) (.cons (cst (.bool true)) .nil))) (tCvar 1552200852325) (itE (attr 1706811829399715066373491 V1)) yes))))
def F153:F:=fnD (.cons 6230994022 (.cons 5929854305 .nil)) .nil (retS (iteC (cmp cIn V4 (lc (idx (cvar 1552200852325) (cst (.str 5929854305))) (tCvar 1552200852325) (itE (attr 1706811829399715066373491 V1)) (tstT (idx (cvar 1552200852325) (cst (.str 6231979362)))))) (cn 0) (cn 2)))
def F154:F:=fnD (.cons 6230994022 (.cons 402925602104690 .nil)) .nil (retS (idx (lc (cvar 1552200852325) (tCvar 1552200852325) (itE (attr 1706811829399715066373491 V1)) (cmp cEq (idx (cvar 1552200852325) (cst (.str 402925602104690))) V5)) (cn 0)))
def F155:F:=fnD (.cons 6230994022 (.cons 5929854305 .nil)) .nil (retS (lc (cvar 1552200852325) (tCvar 1552200852325) (itE (attr 1706811829399715066373491 V1)) (cmp cIn V4 (tupE (.cons (cst (.neg 0)) (.cons (idx (cvar 1552200852325) (cst (.str 5929854305))) .nil))))))
def F159:F:=fnD (.cons 6230994022 (.cons 5929854305 (.cons 6097038948 .nil))) .nil (retS (iteC (cmp cEq (var 6097038948) (cn 5)) (cst (.neg 0)) V4))
def F206:F:=fnD (.cons 1526583227507 (.cons 5979991653 .nil)) .nil (sq (asg (tVar 105660221819022951) (lc (tupE (.cons (idx (var 1526583227507) (cvar 6231715700)) (.cons (cvar 6231715700) .nil))) (tCvar 6231715700) (itE (var 1526583227507)) (cmp cNi (cvar 6231715700) (var 5979991653)))) (retS (iteC (cmp cNe (var 105660221819022951) (lstE .nil)) badC (cst .none))))
def F207:F:=fnD (.cons 6047101043 .nil) .nil (retS (b1 bTuple (b1 bSorted (lc (tupE (.cons (cvar 402925602104690) (.cons (iteC (isN (cvar 99471049357620083)) (cn 0) (cvar 99471049357620083)) .nil))) (tTup (.cons (tCvar 402925602104690) (.cons (tCvar 99471049357620083) .nil))) (itE (var 6047101043)) yes))))
def F13:F:=fnD (.cons 6214874995 .nil) .nil (sq (asg (tVar 6248426596) (dctE .nil)) (sq (asg (tVar 389705542231411) (callF F10 (.cons (var 6214874995) .nil))) (sq (forS (tVar 6231715700) (itE (var 389705542231411)) (asg (tIdx (var 6248426596) (var 6231715700)) (callF F11 (.cons (idx (var 389705542231411) (var 6231715700)) .nil)))) (sq (asg V7 (dctE .nil)) (sq (forS (tVar 6231715700) (itE (b1 bSorted (var 6248426596))) (asg (tIdx V2 (var 6231715700)) (lc (cvar 6113816171) (tCvar 6113816171) (itE (idx (var 6248426596) (var 6231715700))) (anT (cmp cIn (idx (cvar 6113816171) (cn 0)) (var 6248426596)) badT)))) (retS V2))))))
def F14b:F:=fnD (.cons 6248426596 (.cons 5946045555 .nil)) .nil (sq (forS (tVar 400657876481128) (itR (cn 0) (bin oAdd (var 5946045555) (cn 1))) (ifS (cmp cEq (callF F1 (.cons (var 400657876481128) (.cons (var 5946045555) .nil))) (var 6248426596)) (retS (var 400657876481128)) skip)) (retS (cst (.neg 0))))
noncomputable def sh14:AV:=.cons (.nat 4294967232) (.cons (.nat 32) .nil)
def F14:F:=callS sh14 (.nat 26) F14b
def F18:F:=fnD (.cons 6214874995 (.cons 104257210336961892 .nil)) .nil (sq (asgR (.cons V7 (.cons (tVar 389705542231411) .nil)) (.cons (callF F10 (.cons (var 6214874995) .nil)) (.cons (dctE .nil) .nil))) (sq (forS (tVar 6231715700) (itE (b1 bSorted (var 104257210336961892))) (ifS (anT (cmp cEq (idx (var 6231715700) (cn 0)) (cn 1)) (cmp cIn (var 6231715700) (var 389705542231411))) (asg (tIdx V2 (idx (var 6231715700) (cn 1))) (bin oAdd (idx (var 104257210336961892) (var 6231715700)) (tupE (.cons (idx (idx (var 389705542231411) (var 6231715700)) (cn 1)) .nil)))) skip)) (retS V2)))
def F20:F:=fnD (.cons 6214874995 (.cons 104268291637604979 (.cons 24082286 (.cons 407237766374771 (.cons 5946045555 .nil))))) .nil (sq (asg V7 (dctE .nil)) (sq (forS (tTup (.cons (tVar 1565303728484) (.cons (tVar 5946434681) (.cons (tVar 1535156449913) .nil)))) (itE (callF F19 (.cons (var 6214874995) (.cons (cn 3) (.cons (var 104268291637604979) (.cons (var 24082286) .nil)))))) (sq badS (ifS (cmp cNi V6 (var 407237766374771)) (exS (callF F15 (.cons V2 (.cons V6 (.cons (bin oAdd (idx (var 1535156449913) (cn 0)) (idx V8 (cn 2))) (.cons (idx (var 1535156449913) (cn 1)) .nil)))))) skip))) (retS V2)))
def F21:F:=fnD (.cons 6214874995 (.cons 104268291637604979 (.cons 24082286 .nil))) .nil (sq (asg V7 (dctE .nil)) (sq (forS (tTup (.cons (tVar 1565303728484) (.cons (tVar 5946434681) (.cons (tVar 1535156449913) .nil)))) (itE (callF F19 (.cons (var 6214874995) (.cons (cn 4) (.cons (var 104268291637604979) (.cons (var 24082286) .nil)))))) (exS (callF F15 (.cons V2 (.cons (var 1565303728484) (.cons (bin oAdd (idx (var 1535156449913) (cn 0)) (idx V8 (cn 2))) (.cons (idx (var 1535156449913) (cn 1)) .nil))))))) (retS V2)))
def F26:F:=fnD (.cons 407298014209395 .nil) .nil (sq (asg V7 (dctE .nil)) (sq (forS (tVar 1591007868005) (itE (var 407298014209395)) (exS (callF F24 (.cons V2 (.cons (var 1591007868005) .nil))))) (retS V2)))
def F36:F:=fnD (.cons 407298014209395 (.cons 407237766374771 (.cons 5946045555 .nil))) .nil (sq (asg V7 (dctE .nil)) (sq (forS (tVar 1591007868005) (itE (var 407298014209395)) (sq (asg (tVar 24079973) (callF F35 (.cons (idx (var 1591007868005) (cn 0)) (.cons (var 407237766374771) (.cons (var 5946045555) .nil))))) (ifS (noT (isN V11)) (asg (tIdx V2 (idx V11 (cn 0))) (cst (.bool true))) skip))) (retS (b1 bSorted V2))))
def F38:F:=fnD (.cons 407298014209395 (.cons 407237766374771 (.cons 5946045555 .nil))) .nil (sq (asg V7 (dctE .nil)) (sq (forS (tVar 1591007868005) (itE (var 407298014209395)) (sq (asg (tVar 24079973) (callF F35 (.cons (idx (var 1591007868005) (cn 0)) (.cons (var 407237766374771) (.cons (var 5946045555) .nil))))) (ifS (isN V11) (asg (tIdx V2 (idx (var 1591007868005) (cn 0))) (bin bMax (idx (var 1591007868005) (cn 2)) (mGet V2 (idx (var 1591007868005) (cn 0)) (cn 0)))) (ifS (tstT (idx V11 (cn 1))) (asg (tIdx V2 (idx V11 (cn 0))) (bin bMax (idx (var 1591007868005) (cn 2)) (mGet V2 (idx V11 (cn 0)) (cn 0)))) skip)))) (retS V2)))
def F41:F:=fnD (.cons 405111606503800 (.cons 6147110003 (.cons 1599362262382 (.cons 5946045555 .nil)))) .nil (sq (asg (tVar 6113293172) (bin oOr (idx V6 (cn 0)) (bin oSub (bin oSub (bin oShl (cn 1) (var 5946045555)) (cn 1)) (callF F1 (.cons (idx V6 (cn 1)) (.cons (var 5946045555) .nil)))))) (sq (asg (tVar 1706902549625899747927396) (b1 bAny (lc (anC (ofT (cmp cEq (idx (cvar 1578205996402) (cn 0)) (idx V6 (cn 0)))) (ofT (cmp cLt (idx (cvar 1578205996402) (cn 1)) (idx V6 (cn 1))))) (tCvar 1578205996402) (itE (var 6147110003)) yes))) (sq (forS (tVar 402925602104690) (itE (iteC (tstT (var 1706902549625899747927396)) (tupE (.cons (var 6113293172) (.cons (idx V6 (cn 0)) .nil))) (tupE (.cons (idx V6 (cn 0)) (.cons (var 6113293172) .nil))))) (ifS (cmp cNi V5 (var 1599362262382)) (retS V5) skip)) (sq (asg (tVar 402925602104690) (idx V6 (cn 0))) (sq (whl (cmp cIn V5 (var 1599362262382)) badS 100) (retS (iteC (cmp cLe V5 (var 6113293172)) V5 (cst .none))))))))
def F45:F:=fnD (.cons 1539232199795 .nil) .nil (sq (ifS (noT (tstT (callF F44 (.cons (idx (var 1539232199795) (cst (.str 6097038948))) .nil)))) (retS (tupE (.cons (cst (.str 7472753689640324799056345748303476)) (.cons (tupE (.cons (cst (.str 449061071170537172092349551)) .nil)) .nil)))) skip) (sq (ifS (cmp cEq (idx (var 1539232199795) (cst (.str 26549398680684295289))) (cn 0)) (retS (tupE (.cons (cst (.str 1578205996402)) (.cons (tupE (.cons (cst (.str 449061071170537172092349551)) .nil)) .nil)))) skip) (sq (asg (tVar 6130987621) (iteC (cmp cEq (idx (var 1539232199795) (cst (.str 6097038948))) (cst (.str 6146911585))) (tupE (.cons (cst (.str 493747869333551540113556404403462042227)) .nil)) (tupE .nil))) (retS (tupE (.cons (cst (.str 105660221819022951)) (.cons (bin oAdd (tupE (.cons (cst (.str 449061071170537172092349551)) (.cons (cst (.str 1754144809259911079881076)) .nil))) (var 6130987621)) .nil)))))))
def F49:F:=fnD (.cons 1552200852325 (.cons 5946045555 .nil)) .nil (sq (asg (tVar 26401636343735219051) (callF F1 (.cons (idx V3 (cst (.str 400657876481128))) (.cons (var 5946045555) .nil)))) (retS (tupE (.cons (bin oAnd (idx V3 V10) (var 26401636343735219051)) (.cons (var 26401636343735219051) (.cons (cn 3) (.cons (idx V3 (cst (.str 5963215732))) .nil)))))))
def F54:F:=fnD (.cons 1552200852325 (.cons 24082286 .nil)) .nil (sq (ifS (orT (noT (tstT (callF F44 (.cons (idx V3 (cst (.str 6097038948))) .nil)))) (orT (cmp cNe (idx V3 (cst (.str 1595385410661))) (cst (.str 91250))) (cmp cEq (callF F50 (.cons V3 .nil)) (lstE .nil)))) (retS (cst .none)) skip) (retS (tupE (.cons (cst (.str 103131392370504299)) (.cons (idx V3 (cst (.str 400657876481128))) (.cons (b1 bTuple (b1 bSorted (bin oAdd (callF F50 (.cons V3 .nil)) (lstE (.cons (var 24082286) .nil))))) .nil))))))
def F61:F:=fnD (.cons 6230994022 (.cons 23815545 .nil)) .nil (sq (asgR (.cons (tVar 407254728929134) (.cons (tVar 24079973) .nil)) (.cons (mGet (attr 6248426596 V1) V12 (cst .none)) (.cons (meth 24602745 (.cons 1 F60 .nil) V1 (.cons V12 .nil)) .nil))) (sq (ifS (cmp cEq (var 407254728929134) (cst (.str 24012151))) (retS (iteC (cmp cIn V12 (attr 6113293172 V1)) (bin oAdd (idx (attr 6113293172 V1) V12) (cn 5)) (cn 0))) skip) (sq (ifS (orT (isN V11) (anT (tstT (attrK 0 6667588085571102797415 V11)) (isN (var 407254728929134)))) (retS (cst .none)) skip) (retS (iteC (cmp cEq (var 407254728929134) (cst (.str 23424612))) (attr 6248033637 V11) (bin oAdd (attr 6248033637 V11) (iteC (cmp cEq (var 407254728929134) (cst (.str 1578205996402))) (cn 5) (cn 1800))))))))
def F71:F:=fnD (.cons 23884641 (.cons 104538694105326707 .nil)) .nil (retS (tupE (.cons (callF F8 (.cons (idx (var 23884641) (cn 0)) (.cons (var 104538694105326707) .nil))) (.cons (idx (var 23884641) (cn 1)) .nil))))
def F96:F:=fnD (.cons 6667233708592636978021 (.cons 6097038948 (.cons 5929854305 .nil))) .nil (sq (ifS (noT (tstT (callF F48 (.cons (idx (var 6667233708592636978021) (cst (.str 1595385410661))) .nil)))) (retS (cst (.bool false))) skip) (retS (iteC (cmp cEq (var 6097038948) (cn 5)) (ofT (noT (tstT (idx (var 6667233708592636978021) (cst (.str 6231979362)))))) (ofT (cmp cEq (idx (var 6667233708592636978021) (cst (.str 5929854305))) V4)))))
def F98:F:=fnD (.cons 6667233708592636978021 (.cons 23884641 (.cons 408354457675122 .nil))) .nil (sq (asg V7 (cst (.bool false))) (sq (forS (tVar 6758815816546106963314) (itE (idx (var 6667233708592636978021) (cst (.str 1730256849035803382608499)))) (ifS (anT badT (anT badT (cmp cNe (idx (var 6758815816546106963314) (cst (.str 407298014209394))) (var 408354457675122)))) (sq (asg (tIdx (idx (var 6758815816546106963314) (cst (.str 6165063012))) (callF F9 (.cons (idx (var 23884641) (cn 0)) .nil))) (var 23884641)) (asg V7 (cst (.bool true)))) skip)) (retS V2)))
def F105:F:=fnD (.cons 403947921962099 (.cons 1582366286693 .nil)) .nil (sq (asg (tTup (.cons (tVar 23883639) (.cons (tVar 6046705512) .nil))) (callF F104 (.cons (var 403947921962099) .nil))) (sq (asg (tVar 1539367400308) (bin oMod (bin oSub (bin oMul (bin oSub (bin oSub (b1 bLen (var 403947921962099)) (var 1582366286693)) (cn 1)) (var 23883639)) (var 6046705512)) (cn 255))) (sq (ifS (cmp cEq (var 1539367400308) (cn 0)) (asg (tVar 1539367400308) (cn 255)) skip) (sq (asg (tVar 408354273848932) (bin oSub (bin oSub (bin oMul (cn 2) (cn 255)) (var 23883639)) (var 1539367400308))) (sq (ifS (cmp cGt (var 408354273848932) (cn 255)) (asg (tVar 408354273848932) (bin oSub (var 408354273848932) (cn 255))) skip) (retS (bin oAdd (bin oMul (var 1539367400308) (cn 256)) (var 408354273848932))))))))
def F108:F:=fnD (.cons 402925602104690 .nil) .nil (retS (callF F107 (.cons V5 (.cons (cn 1) .nil))))
def F109:F:=fnD (.cons 402925602104690 .nil) .nil (retS (callF F107 (.cons V5 (.cons (cn 2) .nil))))
def F110:F:=fnD (.cons 402925602104690 .nil) .nil (retS (callF F107 (.cons V5 (.cons (cn 3) .nil))))
def F111:F:=fnD (.cons 402925602104690 .nil) .nil (retS (callF F107 (.cons V5 (.cons (cn 4) .nil))))
def F148:F:=fnD (.cons 390805221435751 .nil) .nil (sq (forS (tTup (.cons (tVar 6146846053) (.cons (tVar 1565068981108) (.cons (tVar 6130987892) .nil)))) (itE (cst (.tup (.cons (.tup (.cons (.str 5929854305) (.cons (.nat 0) (.cons (.nat 4294967295) .nil)))) (.cons (.tup (.cons (.str 99471049357620083) (.cons (.nat 0) (.cons (.nat 4294967295) .nil)))) (.cons (.tup (.cons (.str 400657876481128) (.cons (.nat 0) (.cons (.nat 32) .nil)))) (.cons (.tup (.cons (.str 5963215732) (.cons (.nat 1) (.cons (.nat 65535) .nil)))) (.cons (.tup (.cons (.str 26549398680684295289) (.cons (.nat 0) (.cons (.nat 255) .nil)))) (.cons (.tup (.cons (.str 1547889831023) (.cons (.nat 1) (.cons (.nat 65535) .nil)))) (.cons (.tup (.cons (.str 5979332964) (.cons (.nat 1) (.cons (.nat 4294967295) .nil)))) (.cons (.tup (.cons (.str 407255030001252) (.cons (.nat 1) (.cons (.nat 65535) .nil)))) .nil))))))))))) (exS (callF F147 (.cons (bin oAdd (cst (.str 1835114424049853830352091391566770976)) (var 6146846053)) (.cons (idx V9 (var 6146846053)) (.cons (var 1565068981108) (.cons (var 6130987892) .nil))))))) (sq (ifS (cmp cNi (idx V9 (cst (.str 6097038948))) (cst (.tup (.cons (.str 6538393318619711894388) (.cons (.str 6146911585) (.cons (.str 7472753689640324799056345748303476) (.cons (.str 1725829850291229541625460) .nil))))))) badS skip) (sq (ifS (tstT (callF F44 (.cons (idx V9 (cst (.str 6097038948))) .nil))) (exS (callF F147 (.cons (cst (.str 10476651296102097354243095765271687896326616169310247110214003466474889586310014308)) (.cons (idx V9 V10) (.cons (cn 1) (.cons (cn 4294967295) .nil)))))) skip) (retS V9))))
def F150:F:=fnD (.cons 390805221435751 .nil) .nil (sq (exS (callF F147 (.cons (cst (.str 27977583231742366170995568437604)) (.cons (idx V9 (cst (.str 92516))) (.cons (cn 1) (.cons (cn 4294967295) .nil)))))) (sq (forS (tVar 402925602104690) (itE (b1 bSorted (idx V9 (cst (.str 1518042702195))))) (sq (asg (tVar 5929854305) (idx (idx V9 (cst (.str 1518042702195))) V5)) (sq (ifS (tstT (idx V4 (cst (.str 6231979362)))) (exS (callF F147 (.cons (cst (.str 516095340413141561499819406783085279890578641087604)) (.cons (mGet V4 (cst (.str 100316582105148532)) (cn 1)) (.cons (cn 0) (.cons (cn 16777215) .nil)))))) skip) (forS (tTup (.cons (tVar 405111606503800) (.cons (tVar 1595185002350) .nil))) (itE (idx V4 (cst (.str 407237766374771)))) badS)))) (forS (tTup (.cons (tVar 405111606503800) (.cons (tVar 26045266023871964466) (.cons (tVar 401757489490275) (.cons (tVar 24404327) .nil))))) (itE (idx V9 (cst (.str 6594167308238312270963)))) (sq badS (sq (exS (callF F147 (.cons (cst (.str 30788111056433629142179379079210219494074723)) (.cons (var 401757489490275) (.cons (cn 0) (.cons (cn 16777215) .nil)))))) (exS (callF F147 (.cons (cst (.str 1835114422824003049265109245730513255)) (.cons (var 24404327) (.cons (cn 0) (.cons (cn 4294967295) .nil)))))))))))
def F164:F:=fnD (.cons 6230994022 (.cons 23884641 (.cons 103148954138800755 .nil))) .nil (forS (tVar 402925602104690) (itE (var 103148954138800755)) (sq (asg (tVar 1552200852325) (meth 1552200852325 (.cons 9 F154 .nil) V1 (.cons V5 .nil))) (sq badS (sq badS (ifS (anT (cmp cNe (var 6030319980) (cn 0)) (cmp cNi (idx V3 (cst (.str 428434086593574984179086195))) (tupE (.cons (cn 0) (.cons (var 6030319980) .nil))))) badS skip)))))
def F208:F:=fnD (.cons 1565136939891 (.cons 6214872948 (.cons 6297844083 .nil))) .nil (sq (asg (tTup (.cons (tVar 1526583227507) (.cons (tVar 6047101043) (.cons (tVar 5979991653) .nil)))) (tupE (.cons (dctE (.cons (var 6214872948) (cn 0) .nil)) (.cons (dctE (.cons (var 6214872948) (lstE .nil) .nil)) (.cons (dctE .nil) .nil))))) (sq (asg (tVar 90484) (var 6214872948)) (sq (whl (noT (isN (var 90484))) (sq (asg (tIdx (var 5979991653) (var 90484)) (cst (.bool true))) (sq (asg (tVar 6230992238) (lstE .nil)) (sq (forS (tVar 6113816171) (itE (mGet (var 1565136939891) (var 90484) (lstE .nil))) (sq (asg (tVar 1578205996402) (idx (var 6113816171) (cn 0))) (sq badS (sq (exS (mApp (var 6230992238) (var 1578205996402))) (sq (ifS (cmp cIn (var 1578205996402) (var 5979991653)) cntS skip) (sq (ifS (cmp cEq (var 90484) (var 6214872948)) badS badS) (sq (asg (tVar 5963215732) (bin oAdd (idx (var 1526583227507) (var 90484)) (idx (var 6113816171) (cn 1)))) (ifS (orT (cmp cNi (var 1578205996402) (var 1526583227507)) (cmp cLt (var 5963215732) (idx (var 1526583227507) (var 1578205996402)))) (asg (tTup (.cons (tIdx (var 1526583227507) (var 1578205996402)) (.cons (tIdx (var 6047101043) (var 1578205996402)) .nil))) (tupE (.cons (var 5963215732) (.cons (var 6248426596) .nil)))) (ifS (cmp cEq (var 5963215732) (idx (var 1526583227507) (var 1578205996402))) badS skip))))))))) (asg (tVar 90484) (callF F206 (.cons (var 1526583227507) (.cons (var 5979991653) .nil))))))) 100) (retS (dc (cvar 6231715700) (tupE (.cons (idx (var 1526583227507) (cvar 6231715700)) (.cons (callF F207 (.cons (idx (var 6047101043) (cvar 6231715700)) .nil)) .nil))) (tCvar 6231715700) (itE (b1 bSorted (var 5979991653))) yes)))))
def F210:F:=fnD (.cons 6230994022 .nil) .nil (retS (ofT (cmp cGt (b1 bLen (meth 1518042702195 (.cons 9 F152 .nil) V1 .nil)) (cn 1))))
def F16:F:=fnD (.cons 5946434681 (.cons 5946045555 .nil)) .nil (sq (asg V7 (lstE .nil)) (sq (forS (tTup (.cons (tVar 102572814491412836) (.cons (tVar 5979075681) (.cons (tVar 6231650932) (.cons (tVar 401757489490275) .nil))))) (itE (idx V8 (cn 2))) (sq (asg (tVar 400657876481128) (iteC (cmp cEq (var 6231650932) (cn 3)) (callF F14 (.cons (var 5979075681) (.cons (var 5946045555) .nil))) (cst (.neg 0)))) (ifS (cmp cGe (var 400657876481128) (cn 0)) (exS (mApp V2 (tupE (.cons (tupE (.cons (bin oAnd (var 102572814491412836) (var 5979075681)) (.cons (var 400657876481128) .nil))) (.cons (var 401757489490275) .nil))))) skip))) (retS V2)))
def F37:F:=fnD (.cons 407298014209395 (.cons 407237766374771 (.cons 5929854305 (.cons 5946045555 .nil)))) .nil (retS (lc (tupE (.cons (cvar 405111606503800) (.cons (cst (.str 1552336315762)) (.cons (cn 0) (.cons (cn 0) (.cons V4 (.cons (tupE .nil) .nil))))))) (tCvar 405111606503800) (itE (callF F36 (.cons (var 407298014209395) (.cons (var 407237766374771) (.cons (var 5946045555) .nil))))) yes))
def F39:F:=fnD (.cons 5929854305 (.cons 1518042702195 (.cons 1599361674341 (.cons 5946045555 .nil)))) .nil (sq (asgR (.cons (tVar 6114210931) (.cons (tVar 24082286) (.cons V7 .nil))) (.cons (dctE .nil) (.cons (dctE .nil) (.cons (dctE .nil) .nil)))) (sq (forS (tVar 405111606503800) (itE (b1 bSorted (var 1599361674341))) (sq (asg (tVar 1591007868005) (idx (var 1599361674341) V6)) (sq (ifS (orT (cmp cEq (idx (var 1591007868005) (cn 4)) V4) (cmp cGe (idx (var 1591007868005) (cn 2)) (cn 16777215))) cntS skip) (ifS (cmp cEq (idx (var 1591007868005) (cn 1)) (cst (.str 1552336319073))) (exS (mApp (mSetd (var 6114210931) (idx (var 1591007868005) (cn 4)) (lstE .nil)) (var 1591007868005))) (ifS (anT (cmp cEq (idx (var 1591007868005) (cn 1)) (cst (.str 1552336315762))) (cmp cNe V4 (cn 0))) (asg (tIdx V2 V6) (idx (var 1591007868005) (cn 2))) skip))))) (sq (forS (tVar 1578205996402) (itE (b1 bSorted (var 6114210931))) (sq (asg (tVar 6248426596) (callF F38 (.cons (idx (var 6114210931) (var 1578205996402)) (.cons (idx (idx (var 1518042702195) (var 1578205996402)) (cst (.str 407237766374771))) (.cons (var 5946045555) .nil))))) (forS (tVar 405111606503800) (itE (var 6248426596)) (asg (tIdx (var 24082286) V6) (bin bMin (idx (var 6248426596) V6) (mGet (var 24082286) V6 (cn 16777215))))))) (sq (exS (mUpd V2 (var 24082286))) (retS V2)))))
def F42:F:=fnD (.cons 6147110003 (.cons 5946045555 .nil)) .nil (sq (asgR (.cons (tVar 1599362262382) (.cons V7 .nil)) (.cons (dctE .nil) (.cons (dctE .nil) .nil))) (sq (forS (tTup (.cons (tVar 400657876481128) (.cons (tVar 99471049357620083) .nil))) (itE (b1 bSortedR (lc (tupE (.cons (idx (cvar 405111606503800) (cn 1)) (.cons (idx (cvar 405111606503800) (cn 0)) .nil))) (tCvar 405111606503800) (itE (var 6147110003)) yes))) (sq (asg (tVar 402925602104690) (callF F41 (.cons (tupE (.cons (var 99471049357620083) (.cons (var 400657876481128) .nil))) (.cons (var 6147110003) (.cons (var 1599362262382) (.cons (var 5946045555) .nil)))))) (ifS (noT (isN V5)) (sq (asg (tIdx (var 1599362262382) V5) (cst (.bool true))) (asg (tIdx V2 (tupE (.cons (var 99471049357620083) (.cons (var 400657876481128) .nil)))) V5)) skip))) (retS V2)))
def F47:F:=fnD (.cons 1595385410661 (.cons 1535289683572 (.cons 1539232199795 .nil))) .nil (sq (ifS (cmp cEq (var 1535289683572) (cst (.str 5979993966))) (retS (tupE (.cons (cst (.str 5979993966)) (.cons (tupE (.cons (cst (.str 1590839960948)) (.cons (cst (.str 1886942002837827739697623099719905907)) .nil))) .nil)))) skip) (sq (ifS (cmp cEq (var 1535289683572) (cst (.str 6114209648))) (retS (tupE (.cons (cst (.str 26260330480698221419)) (.cons (tupE (.cons (cst (.str 1590839960948)) (.cons (cst (.str 1886942002837827739697623099719905907)) .nil))) .nil)))) skip) (sq (ifS (cmp cEq (var 1535289683572) (cst (.str 410592102805360))) (retS (iteC (cmp cEq (var 1595385410661) (cst (.str 26260330480698221419))) (tupE (.cons (cst (.str 5979993966)) (.cons (tupE .nil) .nil))) (tupE (.cons (var 1595385410661) (.cons (tupE .nil) .nil))))) skip) (sq (ifS (cmp cEq (var 1535289683572) (cst (.str 95600))) (retS (iteC (cmp cEq (var 1595385410661) (cst (.str 5979993966))) (callF F45 (.cons (var 1539232199795) .nil)) (tupE (.cons (var 1595385410661) (.cons (tupE .nil) .nil))))) skip) (sq (ifS (cmp cIn (var 1535289683572) (tupE (.cons (cst (.str 6924548297088556230002)) (.cons (cst (.str 428419643663299070270989678)) .nil)))) (retS (iteC (cmp cEq (var 1595385410661) (cst (.str 105660221819022951))) badC (tupE (.cons (var 1595385410661) (.cons (tupE .nil) .nil))))) skip) (sq (ifS (anT (cmp cEq (var 1535289683572) (cst (.str 487024006285805791568828441892477626213))) (cmp cIn (var 1595385410661) (cst (.tup (.cons (.str 1578205996402) (.cons (.str 389645396047216) (.cons (.str 91250) .nil))))))) badS skip) (retS (tupE (.cons (var 1595385410661) (.cons (tupE .nil) .nil))))))))))
def F52:F:=fnD (.cons 1552200852325 (.cons 5946045555 .nil)) .nil (sq (ifS (cmp cEq (idx V3 (cst (.str 1595385410661))) (cst (.str 5979993966))) (retS (lstE .nil)) skip) (sq (asg (tVar 6047101812) (tupE (.cons (idx V3 V10) (.cons (callF F1 (.cons (var 5946045555) (.cons (var 5946045555) .nil))) (.cons (cn 3) (.cons (cn 0) .nil)))))) (sq (ifS (cmp cEq (idx V3 (cst (.str 1595385410661))) (cst (.str 26260330480698221419))) (retS (lstE (.cons (var 6047101812) .nil))) skip) (sq (ifS (cmp cIn (idx V3 (cst (.str 6097038948))) (tupE (.cons (cst (.str 7472753689640324799056345748303476)) (.cons (cst (.str 1725829850291229541625460)) .nil)))) (sq (asg V7 (lc (tupE (.cons (cvar 24079973) (.cons (idx V3 V10) (.cons (cn 1) (.cons (idx V3 (cst (.str 5963215732))) .nil))))) (tCvar 24079973) (itE (callF F50 (.cons V3 .nil))) yes)) (retS (bin oAdd V2 (lstE (.cons (iteC (cmp cEq (idx V3 (cst (.str 6097038948))) (cst (.str 1725829850291229541625460))) (var 6047101812) (callF F49 (.cons V3 (.cons (var 5946045555) .nil)))) .nil))))) skip) (sq badS (retS (lstE (.cons (callF F49 (.cons V3 (.cons (var 5946045555) .nil))) .nil))))))))
def F67:F:=fnD (.cons 6230994022 (.cons 23815545 (.cons 5946434681 (.cons 24339825 (.cons 24014711 .nil))))) .nil (sq (asg (tTup (.cons (tIdx (attr 6248426596 V1) V12) (.cons (tIdx (attr 6113293172 V1) V12) .nil))) (tupE (.cons (newC 0 F56 (.cons V8 (.cons (var 24339825) (.cons (var 24014711) .nil)))) (.cons (var 24014711) .nil)))) (retS (meth 24276855 (.cons 1 F59 .nil) V1 (.cons V12 (.cons (cn 0) .nil)))))
def F75:F:=fnD (.cons 6230994022 (.cons 23815545 (.cons 24014711 .nil))) .nil (sq (ifS (cmp cNi V12 (attr 6214874995 V1)) (retS (cst .none)) skip) (sq (asg (tTup (.cons (tVar 23884641) (.cons (tVar 1595201708901) .nil))) (idx (attr 6214874995 V1) V12)) (retS (callF F71 (.cons (var 23884641) (.cons (bin oSub (var 24014711) (var 1595201708901)) .nil))))))
def F100:F:=fnD (.cons 23884641 (.cons 5929854305 (.cons 1706811829399715066373491 (.cons 5962296677 .nil)))) .nil (sq (asg V7 (lstE .nil)) (sq (forS (tVar 6667233708592636978021) (itE (var 1706811829399715066373491)) (sq (ifS (noT (tstT (callF F96 (.cons (var 6667233708592636978021) (.cons (idx (idx (var 23884641) (cn 0)) (cn 2)) (.cons V4 .nil)))))) cntS skip) (sq (asg (tVar 101739320387399013) (anC (ofT (noT (isN (var 5962296677)))) (ofT (cmp cEq (idx (var 5962296677) (cn 0)) (idx (var 6667233708592636978021) (cst (.str 402925602104690))))))) (sq (asg (tVar 26045266002363117159) (callF F98 (.cons (var 6667233708592636978021) (.cons (var 23884641) (.cons (iteC (tstT (var 101739320387399013)) (idx (var 5962296677) (cn 1)) (cn 0)) .nil))))) (ifS (anT (tstT (var 26045266002363117159)) (orT (noT (tstT (var 101739320387399013))) badT)) (exS (mApp V2 (idx (var 6667233708592636978021) (cst (.str 402925602104690))))) skip))))) (retS V2)))
def F112:F:=fnD (.cons 6113816171 .nil) .nil (sq (asg (tTup (.cons (tVar 102572814491412836) (.cons (tVar 6722211970509147567201) (.cons (tVar 6231650932) (.cons (tVar 401757489490275) .nil))))) (var 6113816171)) (retS (bin oAdd (bin oAdd (bin oAdd (bin oAdd (callF F111 (.cons (var 102572814491412836) .nil)) (callF F111 (.cons (var 6722211970509147567201) .nil))) (callF F108 (.cons (var 6231650932) .nil))) (callF F108 (.cons (cn 0) .nil))) (callF F109 (.cons (var 401757489490275) .nil)))))
def F114:F:=fnD (.cons 6046441828 (.cons 6231259749 (.cons 1599597732204 .nil))) .nil (sq (asg (tTup (.cons (tVar 23160677) (.cons (tVar 103424961740238451) (.cons (tVar 6097038948) (.cons (tVar 1565303728484) (.cons (tVar 23159926) (.cons (tVar 24339825) (.cons (tVar 1535121843570) .nil)))))))) (var 6046441828)) (sq (asg (tVar 1539518197364) (bin oAdd (bin oAdd (bin oAdd (bin oAdd (callF F109 (.cons (var 23160677) .nil)) (callF F108 (.cons (var 103424961740238451) .nil))) (callF F108 (.cons (var 6097038948) .nil))) (callF F111 (.cons (var 1565303728484) .nil))) (callF F111 (.cons (var 23159926) .nil)))) (retS (bin oAdd (bin oAdd (bin oAdd (var 1539518197364) (callF F111 (.cons (callF F6 (.cons (var 24339825) .nil)) .nil))) (callF F109 (.cons (var 1599597732204) .nil))) (callF F109 (.cons (var 6231259749) .nil))))))
def F151:F:=fnD (.cons 6230994022 (.cons 390805221435751 .nil)) .nil (sq (exS (callF F150 (.cons V9 .nil))) (sq (exS (callF F149 (.cons V9 .nil))) (sq (asg (tAttr 92516 V1) (idx V9 (cst (.str 92516)))) (sq (asg (tAttr 390805221435751 V1) V9) (sq (asg (tAttr 26544624618460639844 V1) (idx V9 (cst (.str 26544624618460639844)))) (sq (asg (tAttr 1706811829399715066373491 V1) (lc (callF F139 (.cons (callF F148 (.cons (cvar 24079973) .nil)) (.cons (attr 92516 V1) .nil))) (tCvar 24079973) (itE (idx V9 (cst (.str 1706811829399715066373491)))) yes)) (sq (asg (tTup (.cons (tAttr 1522053375347 V1) (.cons (tAttr 103427113484906099 V1) .nil))) (tupE (.cons (dctE .nil) (.cons (dctE .nil) .nil)))) (sq (forS (tVar 5929854305) (itE (bin oAdd (meth 1518042702195 (.cons 9 F152 .nil) V1 .nil) (lstE (.cons (cst (.neg 0)) .nil)))) (sq (asg (tIdx (attr 1522053375347 V1) V4) (newC 4 F73 .nil)) (asg (tIdx (attr 103427113484906099 V1) V4) (newC 1 F57 (.cons (attr 92516 V1) (.cons (meth 1735182922907716390186854 (.cons 9 F153 .nil) V1 (.cons V4 .nil)) .nil)))))) (sq (asg (tAttr 392999782149735 V1) (dctE .nil)) (sq (asg (tAttr 6555614525021647501171 V1) (dctE .nil)) (sq (asg (tAttr 24081780 V1) (lstE .nil)) (sq (asg (tAttr 402925602104690 V1) (cn 0)) (asg (tAttr 24014711 V1) (cn 0))))))))))))))
def F17:F:=fnD (.cons 6214874995 (.cons 104257210336961892 (.cons 6214872948 (.cons 6297844083 (.cons 5946045555 .nil))))) .nil (sq (asgR (.cons (tVar 389705542231411) (.cons V7 .nil)) (.cons (dctE .nil) (.cons (callF F10 (.cons (var 6214874995) .nil)) .nil))) (sq (forS (tVar 6231715700) (itE (b1 bSorted (var 104257210336961892))) (sq (asg (tTup (.cons (tVar 5963215732) (.cons (tVar 6047101043) .nil))) (idx (var 104257210336961892) (var 6231715700))) (sq (ifS (cmp cNi (var 6231715700) (var 389705542231411)) cntS skip) (sq (ifS (cmp cEq (idx (var 6231715700) (cn 0)) (cn 0)) (sq badS (sq (ifS (orT (cmp cNi (var 24012148) V2) (cmp cLe (var 5963215732) (idx (idx V2 (var 24012148)) (cn 0)))) (asg (tIdx V2 (var 24012148)) (tupE (.cons (var 5963215732) (.cons (b1 bTuple (b1 bSorted (var 6047101043))) .nil)))) skip) cntS)) skip) (forS (tTup (.cons (tVar 405111606503800) (.cons (tVar 6130987621) .nil))) (itE (callF F16 (.cons (idx (var 389705542231411) (var 6231715700)) (.cons (var 5946045555) .nil)))) (exS (callF F15 (.cons V2 (.cons V6 (.cons (bin oAdd (var 5963215732) (var 6130987621)) (.cons (iteC (cmp cEq (var 6231715700) (var 6214872948)) (lstE (.cons (tupE (.cons (mGet (var 6297844083) V6 (cn 0)) (.cons (cn 0) .nil))) .nil)) (var 6047101043)) .nil))))))))))) (retS V2)))
def F43:F:=fnD (.cons 5929854305 (.cons 1518042702195 (.cons 1599361674341 (.cons 102568360493543015 (.cons 5946045555 .nil))))) .nil (sq (asgR (.cons (tVar 6147110003) (.cons V7 (.cons (tVar 390805221435751) .nil))) (.cons (idx (var 1518042702195) V4) (.cons (dctE .nil) (.cons (dctE .nil) .nil)))) (sq (ifS (orT (noT (tstT (idx V9 (cst (.str 6231979362))))) (tstT (mGet V9 (cst (.str 6248426596)) (cst (.bool true))))) (asg (tVar 6147110003) (callF F39 (.cons V4 (.cons (var 1518042702195) (.cons (var 1599361674341) (.cons (var 5946045555) .nil)))))) skip) (sq (ifS (tstT (idx V9 (cst (.str 6231979362)))) (asg (tIdx (var 6147110003) (tupE (.cons (cn 0) (.cons (cn 0) .nil)))) (mGet V9 (cst (.str 100316582105148532)) (cn 1))) skip) (sq (asg (tVar 23684211) (callF F42 (.cons (var 6147110003) (.cons (var 5946045555) .nil)))) (sq (forS (tVar 405111606503800) (itE (b1 bSorted (var 23684211))) (asg (tIdx V2 (tupE (.cons (cn 3) (.cons (idx (var 23684211) V6) .nil)))) (tupE (.cons (cst (.str 104556329206641273)) (.cons (idx V6 (cn 1)) (.cons (idx (var 6147110003) V6) .nil)))))) (sq (ifS (noT (tstT (idx V9 (cst (.str 6231979362))))) (sq (asg (tVar 104268291637604979) (callF F40 (.cons V4 (.cons (var 102568360493543015) .nil)))) (forS (tVar 402925602104690) (itE (b1 bSorted (var 104268291637604979))) (asg (tIdx V2 (tupE (.cons (cn 4) (.cons V5 .nil)))) (tupE (.cons (cst (.str 104556329206641273)) (.cons (cn 0) (.cons (idx (var 104268291637604979) V5) .nil))))))) skip) (retS V2)))))))
def F53:F:=fnD (.cons 397363418195315 (.cons 6667588082277097432434 (.cons 436967052778820117772263788 (.cons 5946045555 .nil)))) .nil (sq (asg (tVar 1565136939891) (lstE .nil)) (sq (forS (tVar 402925602104690) (itE (b1 bSorted (lc (idx (cvar 1552200852325) (cst (.str 402925602104690))) (tCvar 1552200852325) (itE (var 397363418195315)) yes))) (forS (tVar 1552200852325) (itE (var 397363418195315)) (ifS (cmp cEq (idx V3 (cst (.str 402925602104690))) V5) (exS (mExt (var 1565136939891) (callF F52 (.cons V3 (.cons (var 5946045555) .nil))))) skip))) (sq (asg (tVar 1539416614771) (bin oAdd (bin oMul (cn 1) (var 6667588082277097432434)) (bin oMul (cn 2) (var 436967052778820117772263788)))) (retS (tupE (.cons (cst (.str 407298014209394)) (.cons (var 1539416614771) (.cons (b1 bTuple (var 1565136939891)) .nil))))))))
def F66:F:=fnD (.cons 6230994022 (.cons 23815545 (.cons 24014711 .nil))) .nil (sq (asgR (.cons (tVar 5946434681) (.cons (tVar 24079973) .nil)) (.cons (mGet (attr 6248426596 V1) V12 (cst .none)) (.cons (mGet (attr 412735325365604 V1) V12 (cst .none)) .nil))) (sq (ifS (anT (noT (isN V11)) (orT (isN V8) (cmp cEq (attr 24339825 V11) (cn 2147483647)))) (sq (asg (tAttrK 0 6667588085571102797415 V11) (cst (.bool true))) (retS (meth 24276855 (.cons 1 F59 .nil) V1 (.cons V12 (.cons (cn 3600) .nil))))) skip) (retS (meth 6870217698016467248503 (.cons 1 F67 .nil) V1 (.cons V12 (.cons V8 (.cons (iteC (isN V11) (cst (.neg 2147483646)) (bin oAdd (attr 24339825 V11) (cn 1))) (.cons (var 24014711) .nil))))))))
def F113:F:=fnD (.cons 5946434681 .nil) .nil (sq (asg (tVar 6298759780) (idx V8 (cn 0))) (sq (ifS (tstT (isByt (idx V8 (cst (.neg 0))))) (retS (idx V8 (cst (.neg 0)))) skip) (sq (ifS (cmp cEq (var 6298759780) (cst (.str 407298014209394))) (sq (asg (tVar 1565136939891) (b1 bJoin (lc (callF F112 (.cons (cvar 6113816171) .nil)) (tCvar 6113816171) (itE (idx V8 (cn 2))) yes))) (retS (bin oAdd (bin oAdd (bin oAdd (callF F108 (.cons (idx V8 (cn 1)) .nil)) (callF F108 (.cons (cn 0) .nil))) (callF F109 (.cons (b1 bLen (idx V8 (cn 2))) .nil))) (var 1565136939891)))) skip) (sq (ifS (cmp cEq (var 6298759780) (cst (.str 103131392370504299))) (retS (bin oAdd (callF F111 (.cons (callF F1 (.cons (idx V8 (cn 1)) (.cons (cn 32) .nil))) .nil)) (b1 bJoin (lc (callF F111 (.cons (cvar 407298014209394) .nil)) (tCvar 407298014209394) (itE (idx V8 (cn 2))) yes)))) skip) (sq (ifS (cmp cEq (var 6298759780) (cst (.str 104556329206641273))) (retS (bin oAdd (bin oAdd (callF F111 (.cons (callF F1 (.cons (idx V8 (cn 1)) (.cons (cn 32) .nil))) .nil)) (callF F108 (.cons (cn 0) .nil))) (callF F110 (.cons (idx V8 (cn 2)) .nil)))) skip) (sq (asg (tVar 1539367400308) (bin oAdd (callF F108 (.cons (iteC (tstT (idx V8 (cn 2))) (cn 128) (cn 0)) .nil)) (callF F110 (.cons (idx V8 (cn 3)) .nil)))) (retS (bin oAdd (bin oAdd (bin oAdd (callF F111 (.cons (callF F1 (.cons (idx V8 (cn 1)) (.cons (cn 32) .nil))) .nil)) (var 1539367400308)) (callF F111 (.cons (idx V8 (cn 4)) .nil))) (callF F111 (.cons (idx V8 (cn 5)) .nil))))))))))
def F146:F:=fnD (.cons 1552200852325 (.cons 1535289683572 (.cons 24014711 .nil))) .nil (sq (asg (tTup (.cons (tVar 6180399474) (.cons (tVar 6214872165) .nil))) (tupE (.cons (tupE (.cons (cn 0) (.cons (cn 0) .nil))) (.cons (cst (.str 1578205996402)) .nil)))) (sq (ifS (tstT (callF F44 (.cons (idx V3 (cst (.str 6097038948))) .nil))) badS skip) (sq (asg (tVar 1539232199795) (dctE (.cons (cst (.str 6097038948)) (idx V3 (cst (.str 6097038948))) (.cons (cst (.str 26549398680684295289)) (idx V3 (cst (.str 26549398680684295289))) (.cons (cst (.str 6214872165)) (var 6214872165) .nil))))) (sq (asg (tTup (.cons (tIdx V3 (cst (.str 1595385410661))) (.cons (tVar 391904649701235) .nil))) (callF F47 (.cons (idx V3 (cst (.str 1595385410661))) (.cons (var 1535289683572) (.cons (var 1539232199795) .nil))))) (sq (forS (tVar 6298759780) (itE (var 391904649701235)) (ifS (cmp cEq (var 6298759780) (cst (.str 1535121908596))) badS (ifS (cmp cEq (var 6298759780) (cst (.str 449061071170537172092349551))) (asg (tIdx V3 (cst (.str 25969282039282622836))) (var 24014711)) (ifS (cmp cEq (var 6298759780) (cst (.str 1754144809259911079881076))) (asg (tIdx V3 (cst (.str 1772684364054696031447404))) (bin oAdd (var 24014711) (idx V3 (cst (.str 5979332964))))) (ifS (cmp cEq (var 6298759780) (cst (.str 6852132099532385249652))) (asg (tIdx V3 (cst (.str 1772684364054696031447404))) (cst .none)) (ifS (cmp cEq (var 6298759780) (cst (.str 1590839960948))) (sq badS (asg (tTup (.cons (tIdx V3 (cst (.str 25969282039282622836))) (.cons (tIdx V3 (cst (.str 1772684364054696031447404))) .nil))) (tupE (.cons (cst .none) (.cons (cst .none) .nil))))) skip)))))) (sq (ifS (cmp cEq (var 1535289683572) (cst (.str 6924548297088556230002))) (asg (tIdx V3 (cst (.str 1772684364054696031447404))) (cst .none)) skip) (retS (var 391904649701235))))))))
def F160:F:=fnD (.cons 6230994022 (.cons 5929854305 (.cons 23815545 .nil))) .nil (retS (meth 6114209643 (.cons 4 F75 .nil) (idx (attr 1522053375347 V1) (meth 26547700982972641126 (.cons 9 F159 .nil) V1 (.cons V4 (.cons (idx V12 (cn 0)) .nil)))) (.cons V12 (.cons (attr 24014711 V1) .nil))))
def F209:F:=fnD (.cons 397363418195315 .nil) .nil (sq (asgR (.cons (tVar 1526583227507) (.cons V7 .nil)) (.cons (dctE .nil) (.cons (dctE .nil) .nil))) (sq (forS (tVar 1552200852325) (itE (var 397363418195315)) (sq (asg (tVar 24012148) (tupE (.cons (bin oAnd (idx V3 V10) (callF F1 (.cons (idx V3 (cst (.str 400657876481128))) (.cons (cn 32) .nil)))) (.cons (idx V3 (cst (.str 400657876481128))) .nil)))) (sq (forS (tVar 6231715700) (itE (tupE (.cons (idx V3 V10) (.cons (tupE (.cons (idx V3 V10) (.cons (cn 32) .nil))) (.cons (var 24012148) .nil))))) (ifS (orT (tstT (callF F48 (.cons (idx V3 (cst (.str 1595385410661))) .nil))) (cmp cNi (var 6231715700) V2)) (asg (tIdx V2 (var 6231715700)) (idx V3 (cst (.str 402925602104690)))) skip)) (forS (tVar 24079973) (itE (iteC (noT (tstT (callF F44 (.cons (idx V3 (cst (.str 6097038948))) .nil)))) (idx V3 (cst (.str 1730256849035803382608499))) (tupE .nil))) (sq (asg (tVar 6231715700) (tupE (.cons (idx V3 V10) (.cons (cn 1) (.cons (idx V11 (cst (.str 407298014209394))) .nil))))) (ifS (orT (cmp cEq (idx V11 (cst (.str 1595385410661))) (cst (.str 6013938796))) (cmp cNi (var 6231715700) V2)) (asg (tIdx V2 (var 6231715700)) (idx V11 V10)) skip)))))) (sq (forS (tVar 1552200852325) (itE (var 397363418195315)) (forS (tTup (.cons (tVar 405111606503800) (.cons (tVar 5963215732) .nil))) (itE (callF F16 (.cons (tupE (.cons (cst (.str 407298014209394)) (.cons (cn 0) (.cons (callF F52 (.cons V3 (.cons (cn 32) .nil))) .nil)))) (.cons (cn 32) .nil)))) (ifS (orT (cmp cNi V6 (var 1526583227507)) (cmp cLt (var 5963215732) (idx (var 1526583227507) V6))) (asg (tTup (.cons (tIdx V2 V6) (.cons (tIdx (var 1526583227507) V6) .nil))) (tupE (.cons (idx V3 (cst (.str 402925602104690))) (.cons (var 5963215732) .nil)))) skip))) (retS V2))))
def F215:F:=fnD (.cons 6230994022 .nil) .nil (sq (asgR (.cons (tVar 23684211) (.cons V7 .nil)) (.cons (dctE .nil) (.cons (callF F42 (.cons (b1 bDict (lc (tupE (.cons (idx (cvar 24079973) (cn 0)) (.cons (cn 0) .nil))) (tCvar 24079973) (itE (idx (attr 390805221435751 V1) (cst (.str 6594167308238312270963)))) yes)) (.cons (cn 32) .nil))) .nil))) (sq (forS (tTup (.cons (tVar 405111606503800) (.cons (tVar 26045266023871964466) (.cons (tVar 401757489490275) (.cons (tVar 24404327) .nil))))) (itE (idx (attr 390805221435751 V1) (cst (.str 6594167308238312270963)))) (ifS (cmp cIn V6 (var 23684211)) (asg (tIdx V2 (tupE (.cons (cn 5) (.cons (idx (var 23684211) V6) .nil)))) (tupE (.cons (cst (.str 25758466047805907308)) (.cons (idx V6 (cn 1)) (.cons (var 26045266023871964466) (.cons (var 401757489490275) (.cons (cn 0) (.cons (var 24404327) .nil)))))))) skip)) (retS V2)))
def F55:F:=fnD (.cons 397363418195315 (.cons 24082286 (.cons 6667588082277097432434 (.cons 436967052778820117772263788 (.cons 5946045555 .nil))))) .nil (sq (asg V7 (dctE (.cons (tupE (.cons (cn 1) (.cons (var 24082286) .nil))) (callF F53 (.cons (var 397363418195315) (.cons (var 6667588082277097432434) (.cons (var 436967052778820117772263788) (.cons (var 5946045555) .nil))))) .nil))) (sq (forS (tVar 1552200852325) (itE (var 397363418195315)) (sq (asg (tVar 5946434681) (callF F54 (.cons V3 (.cons (var 24082286) .nil)))) (ifS (noT (isN V8)) (asg (tIdx V2 (tupE (.cons (cn 2) (.cons (idx V3 V10) .nil)))) V8) skip))) (retS V2)))
def F65:F:=fnD (.cons 6230994022 (.cons 24014711 .nil)) .nil (sq (asg V7 (lstE .nil)) (sq (forS (tVar 23815545) (itE (meth 6096779635 (.cons 1 F63 (.cons 4 F78 .nil)) V1 .nil)) (sq (asg (tVar 6248033637) (meth 25685547510426856805 (.cons 1 F61 .nil) V1 (.cons V12 .nil))) (ifS (anT (noT (isN (var 6248033637))) (cmp cLe (var 6248033637) (var 24014711))) (exS (mApp V2 (meth 6247771244 (.cons 1 F66 .nil) V1 (.cons V12 (.cons (var 24014711) .nil))))) skip))) (retS V2)))
def F74:F:=fnD (.cons 6230994022 (.cons 23884641 (.cons 24014711 .nil))) .nil (sq (asg (tVar 23815545) (callF F9 (.cons (idx (var 23884641) (cn 0)) .nil))) (sq (asg (tVar 24079460) (meth 6114209643 (.cons 4 F75 (.cons 9 F160 .nil)) V1 (.cons V12 (.cons (var 24014711) .nil)))) (sq (asg (tIdx (attr 6214874995 V1) V12) (tupE (.cons (var 23884641) (.cons (var 24014711) .nil)))) (retS (callF F72 (.cons (var 24079460) (.cons (var 23884641) .nil)))))))
def F79:F:=fnD (.cons 6230994022 (.cons 24014711 .nil)) .nil (retS (lc (meth 6114209643 (.cons 4 F75 (.cons 9 F160 .nil)) V1 (.cons (cvar 23815545) (.cons (var 24014711) .nil))) (tCvar 23815545) (itE (meth 6096779635 (.cons 1 F63 (.cons 4 F78 .nil)) V1 .nil)) yes))
def F115b:F:=fnD (.cons 23884641 .nil) .nil (sq (asg (tVar 403947921962099) (callF F113 (.cons (idx (var 23884641) (cn 1)) .nil))) (retS (callF F105 (.cons (cutFrom (bin oAdd (callF F114 (.cons (idx (var 23884641) (cn 0)) (.cons (bin oAdd (cn 20) (b1 bLen (var 403947921962099))) (.cons (cn 0) .nil)))) (var 403947921962099)) (cn 2)) (.cons (cn 14) .nil)))))
noncomputable def sh0:AV:=.cons (.tup (.cons (.tup (.cons (.nat 0) (.cons (.nat 2) (.cons (.nat 1) (.cons (.nat 70) (.cons (.nat 70) (.cons .any (.cons (.nat 0) .nil)))))))) (.cons (.tup (.cons (.str 407298014209394) (.cons (.nat 1) (.cons (.tup .nil) .nil)))) .nil))) .nil
noncomputable def sh1:AV:=.cons (.tup (.cons (.tup (.cons (.nat 0) (.cons (.nat 2) (.cons (.nat 1) (.cons (.nat 70) (.cons (.nat 70) (.cons .any (.cons (.nat 0) .nil)))))))) (.cons (.tup (.cons (.str 407298014209394) (.cons (.nat 1) (.cons (.tup (.cons (.tup (.cons (.rng 64 192) (.cons (.nat 4294967232) (.cons (.nat 3) (.cons (.rng 1 5) .nil))))) .nil)) .nil)))) .nil))) .nil
noncomputable def sh2:AV:=.cons (.tup (.cons (.tup (.cons (.nat 0) (.cons (.nat 2) (.cons (.nat 1) (.cons (.nat 70) (.cons (.nat 70) (.cons .any (.cons (.nat 0) .nil)))))))) (.cons (.tup (.cons (.str 407298014209394) (.cons (.nat 1) (.cons (.tup (.cons (.tup (.cons (.rng 64 192) (.cons (.nat 4294967232) (.cons (.nat 3) (.cons (.rng 1 5) .nil))))) (.cons (.tup (.cons (.rng 64 192) (.cons (.nat 4294967232) (.cons (.nat 3) (.cons (.rng 1 5) .nil))))) .nil))) .nil)))) .nil))) .nil
noncomputable def sh3:AV:=.cons (.tup (.cons (.tup (.cons (.nat 0) (.cons (.nat 2) (.cons (.nat 3) (.cons (.rng 64 192) (.cons (.nat 70) (.cons .any (.cons (.nat 0) .nil)))))))) (.cons (.tup (.cons (.str 104556329206641273) (.cons (.nat 26) (.cons (.rng 1 5) .nil)))) .nil))) .nil
def F115:F:=callS sh0 .any (callS sh1 .any (callS sh2 .any (callS sh3 .any (F115b))))
def F187:F:=fnD (.cons 6230994022 (.cons 1552200852325 (.cons 1535289683572 .nil))) .nil (sq (asg (tVar 391904649701235) (callF F146 (.cons V3 (.cons (var 1535289683572) (.cons (attr 24014711 V1) .nil))))) (sq (ifS (cmp cIn (cst (.str 1886942002837827739697623099719905907)) (var 391904649701235)) (forS (tVar 6758815816546106963314) (itE (b1 bList (idx V3 (cst (.str 1730256849035803382608499))))) badS) skip) (ifS (cmp cIn (cst (.str 1535121908596)) (var 391904649701235)) (forS (tVar 6758815816546106963314) (itE (b1 bList (idx V3 (cst (.str 1730256849035803382608499))))) badS) skip)))
def F214:F:=fnD (.cons 6230994022 (.cons 5929854305 (.cons 407298014209395 (.cons 6114210931 .nil)))) .nil (sq (asg (tVar 102568360493543015) (callF F34 (.cons (var 6114210931) .nil))) (sq (asg (tVar 5945783156) (b1 bDict (lc badC (tCvar 402925602104690) (itE (var 102568360493543015)) (cmp cNe (cvar 402925602104690) (attr 92516 V1))))) (retS (callF F43 (.cons V4 (.cons (idx (attr 390805221435751 V1) (cst (.str 1518042702195))) (.cons (callF F26 (.cons (var 407298014209395) .nil)) (.cons (var 5945783156) (.cons (cn 32) .nil)))))))))
def F219:F:=fnD (.cons 1548057666931 (.cons 1526583227507 .nil)) .nil (sq (asg (tVar 6214874995) (lstE .nil)) (sq (forS (tVar 402925602104690) (itE (tupE (.cons (cn 1) (.cons (cn 2) (.cons (cn 3) .nil))))) (sq (asg (tVar 24276855) (dctE (.cons (cst (.str 402925602104690)) V5 (.cons (cst (.str 6097038948)) (cst (.str 7472753689640324799056345748303476)) (.cons (cst (.str 5929854305)) (idx (var 1548057666931) (bin oSub V5 (cn 1))) (.cons (cst (.str 6231979362)) (cst (.bool false)) (.cons (cst (.str 400657876481128)) (cn 26) .nil))))))) (sq (exS (mUpd (var 24276855) (dctE (.cons V10 (bin oAdd (bin oMul (cn 64) V5) (cn 1)) (.cons (cst (.str 5963215732)) (idx (var 1526583227507) (bin oSub V5 (cn 1))) (.cons (cst (.str 26549398680684295289)) (cn 1) (.cons (cst (.str 1547889831023)) (cn 10) (.cons (cst (.str 5979332964)) (cn 40) .nil)))))))) (sq (asg (tIdx (var 24276855) (cst (.str 407255030001252))) (cn 5)) (exS (mApp (var 6214874995) (var 24276855))))))) (sq (asg (tVar 1518042702195) (dctE .nil)) (sq (forS (tVar 5929854305) (itE (tupE (.cons (cn 0) (.cons (cn 1) .nil)))) (asg (tIdx (var 1518042702195) V4) (dctE (.cons (cst (.str 6231979362)) (cst (.bool false)) (.cons (cst (.str 6248426596)) (cst (.bool true)) (.cons (cst (.str 100316582105148532)) (cn 1) (.cons (cst (.str 407237766374771)) (tupE .nil) .nil))))))) (retS (newC 9 F151 (.cons (dctE (.cons (cst (.str 92516)) (cn 70) (.cons (cst (.str 1706811829399715066373491)) (var 6214874995) (.cons (cst (.str 1518042702195)) (var 1518042702195) (.cons (cst (.str 6594167308238312270963)) (tupE .nil) (.cons (cst (.str 26544624618460639844)) (cst .none) .nil)))))) .nil)))))))
def F116:F:=fnD (.cons 23884641 .nil) .nil (retS (tupE (.cons (bin oAdd (cutTo (idx (var 23884641) (cn 0)) (cn 6)) (tupE (.cons (callF F115 (.cons (var 23884641) .nil)) .nil))) (.cons (idx (var 23884641) (cn 1)) .nil))))
def F165:F:=fnD (.cons 6230994022 (.cons 23884641 (.cons 5929854305 (.cons 5962296677 .nil)))) .nil (sq (asgR (.cons (tVar 1582366286693) (.cons (tVar 23815545) .nil)) (.cons (callF F9 (.cons (idx (var 23884641) (cn 0)) .nil)) (.cons (meth 26547700982972641126 (.cons 9 F159 .nil) V1 (.cons V4 (.cons (idx (idx (var 23884641) (cn 0)) (cn 2)) .nil))) .nil))) (sq (exS (callF F103 (.cons (meth 427291034240605315798361459 (.cons 9 F155 .nil) V1 (.cons (var 1582366286693) .nil)) (.cons V12 .nil)))) (sq (exS (meth 24147316 (.cons 4 F74 .nil) (idx (attr 1522053375347 V1) (var 1582366286693)) (.cons (var 23884641) (.cons (attr 24014711 V1) .nil)))) (sq (exS (mPop (attr 392999782149735 V1) (tupE (.cons (var 1582366286693) (.cons V12 .nil))) (cst .none))) (sq (exS (mPop (attr 6555614525021647501171 V1) (tupE (.cons (var 1582366286693) (.cons V12 .nil))) (cst .none))) (sq (ifS (cmp cGe (idx (idx (var 23884641) (cn 0)) (cn 0)) (cn 3600)) (asg (tIdx (attr 392999782149735 V1) (tupE (.cons (var 1582366286693) (.cons V12 .nil)))) (cst (.bool true))) skip) (sq (ifS (noT (isN (var 5962296677))) (asg (tIdx (attr 6555614525021647501171 V1) (tupE (.cons (var 1582366286693) (.cons V12 .nil)))) (cst (.bool true))) skip) (sq (asg (tVar 103148954138800755) (callF F100 (.cons (var 23884641) (.cons V4 (.cons (attr 1706811829399715066373491 V1) (.cons (var 5962296677) .nil)))))) (sq (exS (meth 26761917738096160631 (.cons 9 F164 .nil) V1 (.cons (var 23884641) (.cons (var 103148954138800755) .nil)))) (retS (var 103148954138800755)))))))))))
def F211:F:=fnD (.cons 6230994022 (.cons 5929854305 .nil)) .nil (sq (asg (tVar 6214874995) (meth 25466849150070912883 (.cons 4 F79 .nil) (idx (attr 1522053375347 V1) V4) (.cons (attr 24014711 V1) .nil))) (sq (asgR (.cons (tVar 6214872948) (.cons (tVar 6297844083) .nil)) (.cons (callF F209 (.cons (meth 427291034240605315798361459 (.cons 9 F155 .nil) V1 (.cons V4 .nil)) .nil)) (.cons (tupE (.cons (cn 1) (.cons (attr 92516 V1) .nil))) .nil))) (sq (asg (tVar 104257210336961892) (callF F208 (.cons (callF F13 (.cons (var 6214874995) .nil)) (.cons (var 6214872948) (.cons (var 6297844083) .nil))))) (sq (asg (tVar 6147110003) (callF F17 (.cons (var 6214874995) (.cons (var 104257210336961892) (.cons (var 6214872948) (.cons (var 6297844083) (.cons (cn 32) .nil))))))) (retS (tupE (.cons (callF F25 (.cons (var 6147110003) (.cons (cst (.str 1552336319073)) (.cons V4 .nil)))) (.cons (callF F18 (.cons (var 6214874995) (.cons (var 104257210336961892) .nil))) (.cons (var 6214874995) .nil)))))))))
def F220:F:=fnD (.cons 407298014209394 (.cons 5946437483 (.cons 1595201708901 (.cons 1526583227507 (.cons 24014711 .nil))))) .nil (sq (forS (tVar 5929854305) (itE (tupE (.cons (cn 0) (.cons (cn 1) .nil)))) (sq (asg (tVar 1565136939891) (b1 bTuple (lc (tupE (.cons (bin oMul (cn 64) (cvar 24079973)) (.cons (bin oSub (bin oPow (cn 2) (cn 32)) (cn 64)) (.cons (cn 3) (.cons (idx (var 1526583227507) (bin oSub (cvar 24079973) (cn 1))) .nil))))) (tCvar 24079973) (itE (idx (idx (var 5946437483) V4) (cn 1))) yes))) (sq (ifS (cmp cNe (idx (meth 6114209643 (.cons 4 F75 (.cons 9 F160 .nil)) (var 407298014209394) (.cons V4 (.cons (tupE (.cons (cn 1) (.cons (cn 70) (.cons (cn 70) .nil)))) .nil))) (cn 1)) (tupE (.cons (cst (.str 407298014209394)) (.cons (cn 1) (.cons (var 1565136939891) .nil))))) (retS (cst (.bool false))) skip) (sq (asg (tVar 23360869) (b1 bDict (lc (tupE (.cons (tupE (.cons (cn 3) (.cons (bin oMul (cn 64) (cvar 24079973)) .nil))) (.cons (tupE (.cons (cst (.str 104556329206641273)) (.cons (cn 26) (.cons (idx (var 1526583227507) (bin oSub (cvar 24079973) (cn 1))) .nil)))) .nil))) (tCvar 24079973) (itE (idx (idx (var 5946437483) (bin oSub (cn 1) V4)) (cn 1))) yes))) (sq (asg (tVar 6046444644) (lc (tupE (.cons (tupE (.cons (idx (cvar 6046441828) (cn 2)) (.cons (idx (cvar 6046441828) (cn 3)) .nil))) (.cons (cvar 5946434681) .nil))) (tTup (.cons (tCvar 6046441828) (.cons (tCvar 5946434681) .nil))) (itE (meth 25466849150070912883 (.cons 4 F79 .nil) (idx (attr 1522053375347 (var 407298014209394)) V4) (.cons (var 24014711) .nil))) (cmp cNe (idx (cvar 6046441828) (cn 2)) (cn 1)))) (sq (ifS (orT (cmp cNe (b1 bDict (var 6046444644)) (var 23360869)) (cmp cNe (b1 bLen (var 6046444644)) (b1 bLen (var 23360869)))) (retS (cst (.bool false))) skip) (sq (asg (tVar 404012162050414) (idx (attr 103427113484906099 (var 407298014209394)) V4)) (sq (ifS (cmp cNe (lc (cvar 23815545) (tCvar 23815545) (itE (var 23360869)) (cmp cNe (attr 6248033637 (idx (attr 6248426596 (var 404012162050414)) (cvar 23815545))) (idx (var 1595201708901) (tupE (.cons V4 (.cons (bin oDiv (idx (cvar 23815545) (cn 1)) (cn 64)) .nil)))))) (lstE .nil)) (retS (cst (.bool false))) skip) (sq (asg (tVar 1599496611187) (lc (meth 25685547510426856805 (.cons 1 F61 .nil) (var 404012162050414) (.cons (cvar 23815545) .nil)) (tCvar 23815545) (itE (meth 6096779635 (.cons 1 F63 (.cons 4 F78 .nil)) (var 404012162050414) .nil)) yes)) (ifS (cmp cNe (lc (cvar 6248033637) (tCvar 6248033637) (itE (var 1599496611187)) (anT (noT (isN (cvar 6248033637))) (cmp cLe (cvar 6248033637) (var 24014711)))) (lstE .nil)) (retS (cst (.bool false))) skip)))))))))) (retS (cst (.bool true))))
def F166:F:=fnD (.cons 6230994022 (.cons 23884641 (.cons 5929854305 .nil))) .nil (exS (meth 26832846137987329911 (.cons 9 F165 .nil) V1 (.cons (callF F116 (.cons (var 23884641) .nil)) (.cons V4 (.cons (cst .none) .nil)))))
def F212:F:=fnD (.cons 6230994022 .nil) .nil (sq (asg (tVar 6248426596) (b1 bDict (lc (tupE (.cons (cvar 5929854305) (.cons (meth 6519943759775095945587 (.cons 9 F211 .nil) V1 (.cons (cvar 5929854305) .nil)) .nil))) (tCvar 5929854305) (itE (meth 1518042702195 (.cons 9 F152 .nil) V1 .nil)) yes))) (sq (asgR (.cons (tVar 6114210931) (.cons (tVar 407298014209395) .nil)) (.cons (lstE .nil) (.cons (lstE .nil) .nil))) (sq (forS (tVar 5929854305) (itE (meth 1518042702195 (.cons 9 F152 .nil) V1 .nil)) (exS (mExt (var 407298014209395) (idx (idx (var 6248426596) V4) (cn 0))))) (sq (asg (tVar 1530928263283) (lstE .nil)) (sq (forS (tVar 5929854305) (itE (meth 1518042702195 (.cons 9 F152 .nil) V1 .nil)) (exS (mExt (var 1530928263283) (callF F37 (.cons (idx (idx (var 6248426596) V4) (cn 0)) (.cons (idx (idx (idx (attr 390805221435751 V1) (cst (.str 1518042702195))) V4) (cst (.str 407237766374771))) (.cons V4 (.cons (cn 32) .nil)))))))) (sq (asg (tVar 389645648160100) (lc (idx (cvar 1591007868005) (cn 0)) (tCvar 1591007868005) (itE (var 1530928263283)) yes)) (sq (forS (tVar 5929854305) (itE (meth 1518042702195 (.cons 9 F152 .nil) V1 .nil)) (sq (asg (tTup (.cons (tVar 6046446181) (.cons (tVar 104268291637604979) (.cons (tVar 6214874995) .nil)))) (idx (var 6248426596) V4)) (sq (asg (tVar 404020735079027) (dctE .nil)) (sq (ifS (orT (cmp cEq V4 (cn 0)) (noT (tstT (meth 6667588082277097432434 (.cons 9 F210 .nil) V1 .nil)))) (sq (exS (mExt (var 407298014209395) (callF F25 (.cons (callF F20 (.cons (var 6214874995) (.cons (var 104268291637604979) (.cons (attr 92516 V1) (.cons (var 389645648160100) (.cons (cn 32) .nil)))))) (.cons (cst (.str 1552336315762)) (.cons V4 .nil)))))) (asg (tVar 404020735079027) (callF F21 (.cons (var 6214874995) (.cons (var 104268291637604979) (.cons (attr 92516 V1) .nil)))))) skip) (exS (mApp (var 6114210931) (tupE (.cons V4 (.cons (var 104268291637604979) (.cons (var 404020735079027) .nil)))))))))) (retS (tupE (.cons (var 407298014209395) (.cons (var 6114210931) (.cons (iteC (tstT (meth 6667588082277097432434 (.cons 9 F210 .nil) V1 .nil)) (var 1530928263283) (lstE .nil)) .nil))))))))))))
def F216:F:=fnD (.cons 6230994022 .nil) .nil (sq (asg (tTup (.cons (tVar 407298014209395) (.cons (tVar 6114210931) (.cons (tVar 1530928263283) .nil)))) (iteC (tstT (meth 6667588082277097432434 (.cons 9 F210 .nil) V1 .nil)) (meth 453807492273851946913786222 (.cons 9 F212 .nil) V1 .nil) (tupE (.cons (lstE .nil) (.cons (lstE .nil) (.cons (lstE .nil) .nil)))))) (sq (asg (tVar 436967052778820117772263788) (ofT (cmp cGt (b1 bLen (idx (attr 390805221435751 V1) (cst (.str 6594167308238312270963)))) (cn 0)))) (sq (forS (tVar 5929854305) (itE (meth 1518042702195 (.cons 9 F152 .nil) V1 .nil)) (sq (asg (tVar 397363418195315) (meth 427291034240605315798361459 (.cons 9 F155 .nil) V1 (.cons V4 .nil))) (sq (asg (tVar 6869497130958046852468) (anC (var 436967052778820117772263788) (ofT (noT (tstT (idx (idx (idx (attr 390805221435751 V1) (cst (.str 1518042702195))) V4) (cst (.str 6231979362)))))))) (sq (asg (tVar 412769768203635) (callF F55 (.cons (var 397363418195315) (.cons (attr 92516 V1) (.cons (meth 6667588082277097432434 (.cons 9 F210 .nil) V1 .nil) (.cons (var 6869497130958046852468) (.cons (cn 32) .nil))))))) (sq (ifS (tstT (meth 6667588082277097432434 (.cons 9 F210 .nil) V1 .nil)) (exS (mUpd (var 412769768203635) (meth 7534077524068104742893000556307827 (.cons 9 F214 .nil) V1 (.cons V4 (.cons (var 407298014209395) (.cons (var 6114210931) .nil)))))) skip) (exS (meth 6298366824 (.cons 1 F58 .nil) (idx (attr 103427113484906099 V1) V4) (.cons (var 412769768203635) .nil)))))))) (exS (meth 6298366824 (.cons 1 F58 .nil) (idx (attr 103427113484906099 V1) (cst (.neg 0))) (.cons (meth 1856093089512548111347723762378761587 (.cons 9 F215 .nil) V1 .nil) .nil))))))
def F217:F:=fnD (.cons 6230994022 .nil) .nil (sq (asg (tVar 101739320287654501) (cst (.bool true))) (whl (tstT (var 101739320287654501)) (sq (exS (meth 27051279528891608172 (.cons 9 F216 .nil) V1 .nil)) (sq (asg (tVar 101739320287654501) (cst (.bool false))) (forS (tVar 5929854305) (itE (bin oAdd (meth 1518042702195 (.cons 9 F152 .nil) V1 .nil) (lstE (.cons (cst (.neg 0)) .nil)))) (forS (tVar 23884641) (itE (meth 23360869 (.cons 1 F65 .nil) (idx (attr 103427113484906099 V1) V4) (.cons (attr 24014711 V1) .nil))) (sq (exS (meth 26833973167470571383 (.cons 9 F166 .nil) V1 (.cons (var 23884641) (.cons V4 .nil)))) (asg (tVar 101739320287654501) (meth 6667588082277097432434 (.cons 9 F210 .nil) V1 .nil))))))) 100))
section
variable {c:Cf}
noncomputable def psN:List Str->NL
 |[]=>.nil
 |n::l=>.cons (sc n) (psN l)
theorem psN_ok:∀{ns:List Str},ns.all okS=true->PsAt (psN ns) ns
 |[],_=>.nil
 |n::l,h=>by
  rw[List.all_cons,Bool.and_eq_true] at h
  exact .cons h.1 (psN_ok h.2)
noncomputable def nsA (i:Nat):List Str:=(fnA i).1.args.map (·.arg)
theorem sfn (B:Base c) {L:Nat} (tb:Tab c L) {a:Addr} {F:F} (i:Nat) (nm q:Str) (cd:Addr) (md:Str) (mt:Tok) (h1:(λP=>(Kf P).lookup a)=λU=>some (fo i nm q cd .none .none (.str md mt)):=by kernel_rfl) (h2:(λP=>codeName ((Kf P).lookup cd))=λU=>some q:=by kernel_rfl)
  (hp:plainOk (fnA i).1 (nsA i)=true:=by decide +kernel) (hs:plainScope (fnA i).2.2 (nsA i)=true:=by decide +kernel) (ho:(nsA i).all okS=true:=by decide +kernel) (t:F=fnD (psN (nsA i)) .nil ((mk tb 40).S ⟨(fnA i).2.2,none⟩ (fnA i).2.1).1:=by kernel_rfl):SoundFn c (L+1) a F:=
 sound_mk tb (fnAt_of' B h1 h2 hp hs (.inl ⟨rfl,rfl⟩) (Nat.zero_le _)) (psN_ok ho) ds_nil 40 t
noncomputable def csts (B:Base c):List (Ent (CstP c)):=[B.eN "FIRST_SEQ" 6018921944964014490961 2147483646 243 rfl rfl rfl,
 B.eI "LAST_SEQ" 23941508715919918417 2147483647 245 rfl rfl rfl,
 B.eI "MAX_AGE" 93803015055689541 3600 247 rfl rfl rfl,
 B.eI "REFRESH" 95214710458504008 1800 251 rfl rfl rfl,
 B.eI "MIN_INTERVAL" 103147129957648378719502745932 5 253 rfl rfl rfl,
 B.eI "POINT_graph" 406573494599220616377757800 1 290 rfl rfl rfl,
 B.eI "TRANSIT_graph" 26963031975714449403447668207720 2 291 rfl rfl rfl,
 B.eI "STUB_graph" 1602437907772740921815144 3 292 rfl rfl rfl,
 B.eI "NET" 21906772 0 298 rfl rfl rfl,
 B.eI "ROUTER" 371975664190802 1 299 rfl rfl rfl,
 B.eI "LS_INFINITY" 401757086253058762574746713 16777215 400 rfl rfl rfl,
 B.eI "BORDER" 354383426766162 1 402 rfl rfl rfl,
 B.eI "SUMMARY_NET" 410228679966518043915208020 3 404 rfl rfl rfl,
 B.eI "SUMMARY_ROUTER" 6882495173193145990667371654956370 4 405 rfl rfl rfl,
 B.eI "BACKBONE" 23220915144213089861 0 520 rfl rfl rfl,
 B.eI "LEADS_OUT" 6129309377458546365780 2 522 rfl rfl rfl,
 B.eV "CHOSEN" 355452824274254 (.tup (.cons (.str 1578205996402) (.cons (.str 389645396047216) (.cons (.str 91250) .nil)))) (.ref 316) _ rfl rfl rfl (.tup (.cons (.str "other" rfl) (.cons (.str "backup" rfl) (.cons (.str "dr" rfl) .nil)))) (B.tupR (vs:=[(.str "other" 693),(.str "backup" 694),(.str "dr" 695)]) (n:=0) (by kernel_rfl) (by decide) (.cons (.str _ _) (.cons (.str _ _) (.cons (.str _ _) .nil)))),
 B.eV "SHARED" 373044775372100 (.tup (.cons (.str 6538393318619711894388) (.cons (.str 6146911585) .nil))) (.ref 317) _ rfl rfl rfl (.tup (.cons (.str "broadcast" rfl) (.cons (.str "nbma" rfl) .nil))) (B.tupR (vs:=[(.str "broadcast" 697),(.str "nbma" 698)]) (n:=0) (by kernel_rfl) (by decide) (.cons (.str _ _) (.cons (.str _ _) .nil))),
 B.eI "ROUTER_KIND" 408991568027487870151904836 1 743 rfl rfl rfl,
 B.eI "NETWORK_KIND" 103451807451249671579804192324 2 745 rfl rfl rfl,
 B.eI "POINT_origin" 104082814617400486588932647278 1 747 rfl rfl rfl,
 B.eI "TRANSIT_origin" 6902536185782899047291399287826798 2 749 rfl rfl rfl,
 B.eI "STUB_origin" 410224104389830472211327342 3 751 rfl rfl rfl,
 B.eI "FLAG_BORDER" 394469921228334203041760594 1 753 rfl rfl rfl,
 B.eI "FLAG_EXTERNAL" 25851980757620329038805262549324 2 755 rfl rfl rfl,
 B.eV "ENDED" 1397177468228 (.tup (.cons (.str 429680551686274411622790259) (.cons (.str 1928703723134150664789632432919377017) .nil))) (.ref 666) _ rfl rfl rfl (.tup (.cons (.str "clear_lists" rfl) (.cons (.str "stop_inactivity" rfl) .nil))) (B.tupR (vs:=[(.str "clear_lists" 1201),(.str "stop_inactivity" 1202)]) (n:=0) (by kernel_rfl) (by decide) (.cons (.str _ _) (.cons (.str _ _) .nil))),
 B.eI "EXTERNAL_receive" 432457729968271019131534727690173642341 5 1284 rfl rfl rfl,
 B.eI "MODULUS" 93818322152084819 255 1367 rfl rfl rfl,
 B.eI "BITS" 5407069267 32 1439 rfl rfl rfl,
 B.eI "HEAD_SIZE" 6055522401215046048325 20 1441 rfl rfl rfl,
 B.eI "SUM_PLACE" 6259592914852449960773 14 1443 rfl rfl rfl,
 B.eI "AGE_SIZE" 23150548685242849861 2 1445 rfl rfl rfl,
 B.eI "TYPE_TWO" 24524721504705075023 128 1447 rfl rfl rfl,
 B.eI "E_BIT" 1397462550868 2 1681 rfl rfl rfl,
 B.eI "SEND_DELAY" 1602160702771275886248281 1 1705 rfl rfl rfl,
 B.eI "WIRE" 5759390277 32 1785 rfl rfl rfl,
 B.eI "OPTIONS" 94382440135478867 2 1791 rfl rfl rfl,
 B.eN "OUTSIDE" 94387937860994117 0 1794 rfl rfl rfl,
 B.eI "FOUR_OCTETS" 394484458055312062730818643 4294967295 1800 rfl rfl rfl,
 B.eI "THREE_OCTETS" 105312334510145314325870761043 16777215 1806 rfl rfl rfl,
 B.eV "BOUNDS" 354383477752915 (.tup (.cons (.tup (.cons (.str 5929854305) (.cons (.nat 0) (.cons (.nat 4294967295) .nil)))) (.cons (.tup (.cons (.str 99471049357620083) (.cons (.nat 0) (.cons (.nat 4294967295) .nil)))) (.cons (.tup (.cons (.str 400657876481128) (.cons (.nat 0) (.cons (.nat 32) .nil)))) (.cons (.tup (.cons (.str 5963215732) (.cons (.nat 1) (.cons (.nat 65535) .nil)))) (.cons (.tup (.cons (.str 26549398680684295289) (.cons (.nat 0) (.cons (.nat 255) .nil)))) (.cons (.tup (.cons (.str 1547889831023) (.cons (.nat 1) (.cons (.nat 65535) .nil)))) (.cons (.tup (.cons (.str 5979332964) (.cons (.nat 1) (.cons (.nat 4294967295) .nil)))) (.cons (.tup (.cons (.str 407255030001252) (.cons (.nat 1) (.cons (.nat 65535) .nil)))) .nil))))))))) (.ref 1086) _ rfl rfl rfl (.tup (.cons (.tup (.cons (.str "area" rfl) (.cons (.nat 0) (.cons (.nat 4294967295) .nil)))) (.cons (.tup (.cons (.str "address" rfl) (.cons (.nat 0) (.cons (.nat 4294967295) .nil)))) (.cons (.tup (.cons (.str "length" rfl) (.cons (.nat 0) (.cons (.nat 32) .nil)))) (.cons (.tup (.cons (.str "cost" rfl) (.cons (.nat 1) (.cons (.nat 65535) .nil)))) (.cons (.tup (.cons (.str "priority" rfl) (.cons (.nat 0) (.cons (.nat 255) .nil)))) (.cons (.tup (.cons (.str "hello" rfl) (.cons (.nat 1) (.cons (.nat 65535) .nil)))) (.cons (.tup (.cons (.str "dead" rfl) (.cons (.nat 1) (.cons (.nat 4294967295) .nil)))) (.cons (.tup (.cons (.str "resend" rfl) (.cons (.nat 1) (.cons (.nat 65535) .nil)))) .nil))))))))) (B.tupR (vs:=[(.ref 1078),(.ref 1079),(.ref 1080),(.ref 1081),(.ref 1082),(.ref 1083),(.ref 1084),(.ref 1085)]) (n:=0) (by kernel_rfl) (by decide) (.cons (B.tupR (vs:=[(.str "area" 1808),(.int 0 1809),(.int 4294967295 1800)]) (n:=0) (by kernel_rfl) (by decide) (.cons (.str _ _) (.cons (.int _ _) (.cons (.int _ _) .nil)))) (.cons (B.tupR (vs:=[(.str "address" 1810),(.int 0 1811),(.int 4294967295 1800)]) (n:=0) (by kernel_rfl) (by decide) (.cons (.str _ _) (.cons (.int _ _) (.cons (.int _ _) .nil)))) (.cons (B.tupR (vs:=[(.str "length" 1812),(.int 0 1813),(.int 32 1785)]) (n:=0) (by kernel_rfl) (by decide) (.cons (.str _ _) (.cons (.int _ _) (.cons (.int _ _) .nil)))) (.cons (B.tupR (vs:=[(.str "cost" 1814),(.int 1 1815),(.int 65535 1816)]) (n:=0) (by kernel_rfl) (by decide) (.cons (.str _ _) (.cons (.int _ _) (.cons (.int _ _) .nil)))) (.cons (B.tupR (vs:=[(.str "priority" 1817),(.int 0 1818),(.int 255 1819)]) (n:=0) (by kernel_rfl) (by decide) (.cons (.str _ _) (.cons (.int _ _) (.cons (.int _ _) .nil)))) (.cons (B.tupR (vs:=[(.str "hello" 1820),(.int 1 1821),(.int 65535 1822)]) (n:=0) (by kernel_rfl) (by decide) (.cons (.str _ _) (.cons (.int _ _) (.cons (.int _ _) .nil)))) (.cons (B.tupR (vs:=[(.str "dead" 1823),(.int 1 1824),(.int 4294967295 1800)]) (n:=0) (by kernel_rfl) (by decide) (.cons (.str _ _) (.cons (.int _ _) (.cons (.int _ _) .nil)))) (.cons (B.tupR (vs:=[(.str "resend" 1825),(.int 1 1826),(.int 65535 1827)]) (n:=0) (by kernel_rfl) (by decide) (.cons (.str _ _) (.cons (.int _ _) (.cons (.int _ _) .nil)))) .nil))))))))),
 B.eV "KINDS" 1422864041043 (.tup (.cons (.str 6538393318619711894388) (.cons (.str 6146911585) (.cons (.str 7472753689640324799056345748303476) (.cons (.str 1725829850291229541625460) .nil))))) (.ref 1087) _ rfl rfl rfl (.tup (.cons (.str "broadcast" rfl) (.cons (.str "nbma" rfl) (.cons (.str "point_to_point" rfl) (.cons (.str "multipoint" rfl) .nil))))) (B.tupR (vs:=[(.str "broadcast" 1829),(.str "nbma" 1830),(.str "point_to_point" 1831),(.str "multipoint" 1832)]) (n:=0) (by kernel_rfl) (by decide) (.cons (.str _ _) (.cons (.str _ _) (.cons (.str _ _) (.cons (.str _ _) .nil))))),
 B.eI "EXTERNAL_KIND" 25776489375130594917030556159556 5 2508 rfl rfl rfl]
noncomputable def atts (ha:c.att=attL):List (Ent (λn (v:Unit)=>n∈c.att)):=[.of "seq" 24339825 () rfl rfl (by rw[ha];decide),.of "time" 6248033637 () rfl rfl (by rw[ha];decide),.of "body" 5946434681 () rfl rfl (by rw[ha];decide),.of "told" 6248426596 () rfl rfl (by rw[ha];decide),.of "wanted" 412735325365604 () rfl rfl (by rw[ha];decide),.of "adv" 23159926 () rfl rfl (by rw[ha];decide),.of "last" 6113293172 () rfl rfl (by rw[ha];decide),.of "options" 103424961740238451 () rfl rfl (by rw[ha];decide),.of "rows" 6214874995 () rfl rfl (by rw[ha];decide),.of "interfaces" 1706811829399715066373491 () rfl rfl (by rw[ha];decide),.of "count" 1526583357044 () rfl rfl (by rw[ha];decide),.of "out" 24081780 () rfl rfl (by rw[ha];decide),.of "number" 402925602104690 () rfl rfl (by rw[ha];decide),.of "ending" 392999782149735 () rfl rfl (by rw[ha];decide),.of "id" 92516 () rfl rfl (by rw[ha];decide),.of "bases" 1522053375347 () rfl rfl (by rw[ha];decide),.of "now" 24014711 () rfl rfl (by rw[ha];decide),.of "came_rows" 6555614525021647501171 () rfl rfl (by rw[ha];decide),.of "origins" 103427113484906099 () rfl rfl (by rw[ha];decide),.of "config" 390805221435751 () rfl rfl (by rw[ha];decide),.of "password" 26544624618460639844 () rfl rfl (by rw[ha];decide)]
noncomputable def mkTab (B:Base c) (ha:c.att=attL) (L:Nat) (fns:List (Ent (FnP c L))) (kls:List (Ent (KlP c L))) (ms:List (Ent (λn ml=>MsAt c L n ml))):Tab c L where
 ok:=B.ok ha
 cst n:=findE n (csts B)
 fn n:=findE n fns
 kls n:=findE n kls
 ms n:=findE n ms
 att n:=(findE n (atts ha)).map λx=>⟨x.2⟩
 atk n:=if h:n="is_ending" then some ⟨0,by subst h;exact B.ak (a:=410) rfl (by kernel_rfl)⟩ else none
 g_sorted:=B.builtin (k:=408397475505508) rfl rfl rfl (by decide) (by kernel_rfl)
 g_len:=B.builtin (k:=23881070) rfl rfl rfl (by decide) (by kernel_rfl)
 g_min:=B.builtin (k:=23947630) rfl rfl rfl (by decide) (by kernel_rfl)
 g_max:=B.builtin (k:=23945592) rfl rfl rfl (by decide) (by kernel_rfl)
 g_any:=B.builtin (k:=23162489) rfl rfl rfl (by decide) (by kernel_rfl)
 g_isinstance:=B.builtin (k:=1706903273020983629210469) rfl rfl rfl (by decide) (by kernel_rfl)
 g_dict:=B.builtin (k:=5979595636) rfl rfl rfl (by decide) (by kernel_rfl)
 g_list:=B.builtin (k:=6113817460) rfl rfl rfl (by decide) (by kernel_rfl)
 g_tuple:=B.builtin (k:=1599698136165) rfl rfl rfl (by decide) (by kernel_rfl)
 g_int:=B.builtin (k:=23686772) rfl rfl rfl (by decide) (by kernel_rfl)
 g_bytes:=B.builtin (k:=1522456094067) rfl rfl rfl (by decide) (by kernel_rfl)
 g_range:=B.builtin (k:=1590772524901) rfl rfl rfl (by decide) (by kernel_rfl)
noncomputable def tb0 (B:Base c) (ha:c.att=attL):Tab c 0:=mkTab B ha 0 [] [] []
section
variable (B:Base c) (ha:c.att=attL)
include B ha
theorem sf1:SoundFn c 1 28 F1:=sfn B (tb0 B ha) 1 "mask_of" "mask_of" 27 "routeloom.prefixes" 194
theorem sf6:SoundFn c 1 63 F6:=sfn B (tb0 B ha) 6 "seq_octets_number" "seq_octets_number" 62 "routeloom.seqs" 240
end
theorem fa8 (B:Base c):FnAt c 79 (fdA 8 "aged_head" "aged_head" 78 (.ref 72) .none (.str "routeloom.seqs" 240)) (fnA 8).2.1 ["head","seconds","max_age"] [(.int 3600 247)]:=fnAt_of' B (by kernel_rfl) (by kernel_rfl) (by decide +kernel) (by decide +kernel) (.inr ⟨_,_,_,rfl,B.get (g:=λU=>to [(.int 3600 247)] 0) (by kernel_rfl),rfl⟩) (by decide)
section
variable (B:Base c) (ha:c.att=attL)
include B ha
theorem t8:F8=fnD (.cons 6046441828 (.cons 104538694105326707 (.cons 102845536123578213 .nil))) (.cons 102845536123578213 (.nat 3600) .nil) ((mk (tb0 B ha) 40).S ⟨(fnA 8).2.2,none⟩ (fnA 8).2.1).1:=by kernel_rfl
end
theorem ds_8 (B:Base c):DsAt c (.cons 102845536123578213 (.nat 3600) .nil) ["head","seconds","max_age"] [.int 3600 247]:=by
 intro j n v hj hv
 have hv:(match Nat.beq 102845536123578213 (sc n) with|true=>some (AV.nat 3600)|false=>none)=some v:=hv
 cases q:Nat.beq 102845536123578213 (sc n) with
 |false=>rw[q] at hv;cases hv
 |true=>
  rw[q] at hv
  cases hv
  match j,hj with
  |0,hj=>cases hj;exact absurd q (by decide +kernel)
  |1,hj=>cases hj;exact absurd q (by decide +kernel)
  |2,hj=>exact ⟨0,_,_,rfl,rfl,.nat _,.int _ _⟩
  |j+3,hj=>cases hj
section
variable (B:Base c) (ha:c.att=attL)
include B ha
theorem sf8:SoundFn c 1 79 F8:=sound_mk (tb0 B ha) (fa8 B) (ps_of (ps:=(.cons 6046441828 (.cons 104538694105326707 (.cons 102845536123578213 .nil)))) (by decide +kernel)) (ds_8 B) 40 (t8 B ha)
theorem sf9:SoundFn c 1 86 F9:=sfn B (tb0 B ha) 9 "key_of" "key_of" 85 "routeloom.seqs" 240
theorem sf10:SoundFn c 1 101 F10:=sfn B (tb0 B ha) 10 "area_vertices" "area_vertices" 100 "routeloom.graph" 288
theorem sf11:SoundFn c 1 106 F11:=sfn B (tb0 B ha) 11 "links_of" "links_of" 105 "routeloom.graph" 288
theorem sf15:SoundFn c 1 128 F15:=sfn B (tb0 B ha) 15 "put_best" "put_best" 127 "routeloom.stubs" 337
theorem sf19:SoundFn c 1 160 F19:=sfn B (tb0 B ha) 19 "counting_rows" "counting_rows" 159 "routeloom.interarea" 398
theorem sf24:SoundFn c 1 194 F24:=sfn B (tb0 B ha) 24 "take_route" "take_route" 193 "routeloom.ospftable" 455
theorem sf25:SoundFn c 1 199 F25:=sfn B (tb0 B ha) 25 "routes_of" "routes_of" 198 "routeloom.ospftable" 455
theorem sf34:SoundFn c 1 258 F34:=sfn B (tb0 B ha) 34 "ways_out" "ways_out" 257 "routeloom.externals" 516
theorem sf35:SoundFn c 1 265 F35:=sfn B (tb0 B ha) 35 "range_of" "range_of" 264 "routeloom.areas" 587
theorem sf40:SoundFn c 1 298 F40:=sfn B (tb0 B ha) 40 "routers_for" "routers_for" 297 "routeloom.areas" 587
theorem sf44:SoundFn c 1 324 F44:=sfn B (tb0 B ha) 44 "is_shared" "is_shared" 323 "routeloom.istate" 691
theorem sf48:SoundFn c 1 352 F48:=sfn B (tb0 B ha) 48 "sends_hellos" "sends_hellos" 351 "routeloom.istate" 691
theorem sf50:SoundFn c 1 364 F50:=sfn B (tb0 B ha) 50 "full_routers" "full_routers" 363 "routeloom.origin" 741
theorem sf56:SoundFn c 1 407 F56:=sfn B (tb0 B ha) 56 "__init__" "Told.__init__" 406 "routeloom.origin" 741
theorem sf57:SoundFn c 1 428 F57:=sfn B (tb0 B ha) 57 "__init__" "Origin.__init__" 427 "routeloom.origin" 741
theorem sf58:SoundFn c 1 435 F58:=sfn B (tb0 B ha) 58 "wish" "Origin.wish" 434 "routeloom.origin" 741
theorem sf59:SoundFn c 1 442 F59:=sfn B (tb0 B ha) 59 "row" "Origin.row" 441 "routeloom.origin" 741
theorem sf60:SoundFn c 1 449 F60:=sfn B (tb0 B ha) 60 "why" "Origin.why" 448 "routeloom.origin" 741
theorem sf63:SoundFn c 1 468 F63:=sfn B (tb0 B ha) 63 "keys" "Origin.keys" 467 "routeloom.origin" 741
theorem sf72:SoundFn c 1 563 F72:=sfn B (tb0 B ha) 72 "is_changed" "is_changed" 562 "routeloom.lsdb" 1040
theorem sf73:SoundFn c 1 577 F73:=sfn B (tb0 B ha) 73 "__init__" "Database.__init__" 576 "routeloom.lsdb" 1040
theorem sf78:SoundFn c 1 612 F78:=sfn B (tb0 B ha) 78 "keys" "Database.keys" 611 "routeloom.lsdb" 1040
theorem sf91:SoundFn c 1 708 F91:=sfn B (tb0 B ha) 91 "next_state" "next_state" 707 "routeloom.nstate" 1188
theorem sf103:SoundFn c 1 792 F103:=sfn B (tb0 B ha) 103 "forget_owed" "forget_owed" 791 "routeloom.flooding" 1286
theorem sf104:SoundFn c 1 799 F104:=sfn B (tb0 B ha) 104 "fletcher_pair" "fletcher_pair" 798 "routeloom.fletcher" 1365
theorem sf107:SoundFn c 1 818 F107:=sfn B (tb0 B ha) 107 "put_number" "put_number" 817 "routeloom.octets" 1401
theorem sf139:SoundFn c 1 1029 F139:=sfn B (tb0 B ha) 139 "new_iface" "new_iface" 1028 "routeloom.ospfiface" 1703
theorem sf147:SoundFn c 1 1094 F147:=sfn B (tb0 B ha) 147 "need_room" "need_room" 1093 "routeloom.ospfbase" 1783
theorem sf149:SoundFn c 1 1108 F149:=sfn B (tb0 B ha) 149 "check_ifaces" "check_ifaces" 1107 "routeloom.ospfbase" 1783
theorem sf152:SoundFn c 1 1132 F152:=sfn B (tb0 B ha) 152 "areas" "OspfBase.areas" 1131 "routeloom.ospfbase" 1783
theorem sf153:SoundFn c 1 1137 F153:=sfn B (tb0 B ha) 153 "options_of" "OspfBase.options_of" 1136 "routeloom.ospfbase" 1783
theorem sf154:SoundFn c 1 1142 F154:=sfn B (tb0 B ha) 154 "iface" "OspfBase.iface" 1141 "routeloom.ospfbase" 1783
theorem sf155:SoundFn c 1 1147 F155:=sfn B (tb0 B ha) 155 "area_ifaces" "OspfBase.area_ifaces" 1146 "routeloom.ospfbase" 1783
theorem sf159:SoundFn c 1 1175 F159:=sfn B (tb0 B ha) 159 "place_of" "OspfBase.place_of" 1174 "routeloom.ospfbase" 1783
theorem sf206:SoundFn c 1 1539 F206:=sfn B (tb0 B ha) 206 "nearest_spot" "nearest_spot" 1538 "routeloom.spf" 2450
theorem sf207:SoundFn c 1 1544 F207:=sfn B (tb0 B ha) 207 "settled_hops" "settled_hops" 1543 "routeloom.spf" 2450
end
def fns1 (B:Base c) (ha:c.att=attL):List (Ent (FnP c 1)):=[B.eF "mask_of" 102845514849939302 28 F1 rfl rfl rfl rfl (sf1 B ha),
 B.eF "seq_octets_number" 126379598820441479000063858590292042212722 63 F6 rfl rfl rfl rfl (sf6 B ha),
 B.eF "aged_head" 6519151129538962219364 79 F8 rfl rfl rfl rfl (sf8 B ha),
 B.eF "key_of" 399558548877158 86 F9 rfl rfl rfl rfl (sf9 B ha),
 B.eF "area_vertices" 28002945219993246462173711132019 101 F10 rfl rfl rfl rfl (sf10 B ha),
 B.eF "links_of" 26258640510136577894 106 F11 rfl rfl rfl rfl (sf11 B ha),
 B.eF "put_best" 26550255131254158196 128 F15 rfl rfl rfl rfl (sf15 B ha),
 B.eF "counting_rows" 28160492494582636611442335250291 160 F19 rfl rfl rfl rfl (sf19 B ha),
 B.eF "take_route" 1758517404499137652946021 194 F24 rfl rfl rfl rfl (sf24 B ha),
 B.eF "routes_of" 6833326760762095398758 199 F25 rfl rfl rfl rfl (sf25 B ha),
 B.eF "ways_out" 27049034373393249652 258 F34 rfl rfl rfl rfl (sf34 B ha),
 B.eF "range_of" 26688734257135710054 265 F35 rfl rfl rfl rfl (sf35 B ha),
 B.eF "routers_for" 447828902593303670172315506 298 F40 rfl rfl rfl rfl (sf40 B ha),
 B.eF "is_shared" 6667588100938446038372 324 F44 rfl rfl rfl rfl (sf44 B ha),
 B.eF "sends_hellos" 114941561464801099297437020019 352 F48 rfl rfl rfl rfl (sf48 B ha),
 B.eF "full_routers" 110937589851642638230429725299 364 F50 rfl rfl rfl rfl (sf50 B ha),
 B.eF "is_changed" 1706902549336642491475300 563 F72 rfl rfl rfl rfl (sf72 B ha),
 B.eF "next_state" 1730257933549066141135973 708 F91 rfl rfl rfl rfl (sf91 B ha),
 B.eF "next_state_nstate" 124678223756582699244263901551299091592293 708 F91 rfl rfl rfl rfl (sf91 B ha),
 B.eF "forget_owed" 433321736480949289847580004 792 F103 rfl rfl rfl rfl (sf103 B ha),
 B.eF "fletcher_pair" 28397229212303381424140571470194 799 F104 rfl rfl rfl rfl (sf104 B ha),
 B.eF "put_number" 1739997520295135268726130 818 F107 rfl rfl rfl rfl (sf107 B ha),
 B.eF "new_iface" 6758819748404049044325 1029 F139 rfl rfl rfl rfl (sf139 B ha),
 B.eF "need_room" 6758814687309278965613 1094 F147 rfl rfl rfl rfl (sf147 B ha),
 B.eF "check_ifaces" 109993385564796872536166196595 1108 F149 rfl rfl rfl rfl (sf149 B ha),
 B.eF "nearest_spot" 113394075282181350031849713524 1539 F206 rfl rfl rfl rfl (sf206 B ha),
 B.eF "settled_hops" 114941590093645182962372669555 1544 F207 rfl rfl rfl rfl (sf207 B ha)]
noncomputable def kls1 (B:Base c) (ha:c.att=attL):List (Ent (KlP c 1)):=[]
def ms1 (B:Base c) (ha:c.att=attL):List (Ent (λn ml=>MsAt c 1 n ml)):=[.of "__init__" 25319071553036771167 (.cons 0 F56 (.cons 1 F57 (.cons 4 F73 .nil))) rfl rfl (B.ms (C:=410) rfl (by kernel_rfl) ((sf56 B ha).up (by decide)) (B.ms (C:=513) rfl (by kernel_rfl) ((sf57 B ha).up (by decide)) (B.ms (C:=659) rfl (by kernel_rfl) ((sf73 B ha).up (by decide)) .nil))),
 .of "wish" 6298366824 (.cons 1 F58 .nil) rfl rfl (B.ms (C:=513) rfl (by kernel_rfl) ((sf58 B ha).up (by decide)) .nil),
 .of "row" 24276855 (.cons 1 F59 .nil) rfl rfl (B.ms (C:=513) rfl (by kernel_rfl) ((sf59 B ha).up (by decide)) .nil),
 .of "why" 24602745 (.cons 1 F60 .nil) rfl rfl (B.ms (C:=513) rfl (by kernel_rfl) ((sf60 B ha).up (by decide)) .nil),
 .of "keys" 6096779635 (.cons 1 F63 (.cons 4 F78 .nil)) rfl rfl (B.ms (C:=513) rfl (by kernel_rfl) ((sf63 B ha).up (by decide)) (B.ms (C:=659) rfl (by kernel_rfl) ((sf78 B ha).up (by decide)) .nil)),
 .of "areas" 1518042702195 (.cons 9 F152 .nil) rfl rfl (B.ms (C:=1614) rfl (by kernel_rfl) ((sf152 B ha).up (by decide)) .nil),
 .of "options_of" 1735182922907716390186854 (.cons 9 F153 .nil) rfl rfl (B.ms (C:=1614) rfl (by kernel_rfl) ((sf153 B ha).up (by decide)) .nil),
 .of "iface" 1552200852325 (.cons 9 F154 .nil) rfl rfl (B.ms (C:=1614) rfl (by kernel_rfl) ((sf154 B ha).up (by decide)) .nil),
 .of "area_ifaces" 427291034240605315798361459 (.cons 9 F155 .nil) rfl rfl (B.ms (C:=1614) rfl (by kernel_rfl) ((sf155 B ha).up (by decide)) .nil),
 .of "place_of" 26547700982972641126 (.cons 9 F159 .nil) rfl rfl (B.ms (C:=1614) rfl (by kernel_rfl) ((sf159 B ha).up (by decide)) .nil)]
def tb1 (B:Base c) (ha:c.att=attL):Tab c 1:=mkTab B ha 1 (fns1 B ha) (kls1 B ha) (ms1 B ha)
section
variable (B:Base c) (ha:c.att=attL)
include B ha
theorem sf13:SoundFn c 2 116 F13:=sfn B (tb1 B ha) 13 "graph_edges" "graph_edges" 115 "routeloom.graph" 288
end
theorem fa14 (B:Base c):FnAt c 123 (fdA 14 "length_of" "length_of" 122 .none .none (.str "routeloom.stubs" 337)) (fnA 14).2.1 ["told","bits"] []:=fnAt_of' B (by kernel_rfl) (by kernel_rfl) (by decide +kernel) (by decide +kernel) (.inl ⟨rfl,rfl⟩) (by decide)
section
variable (B:Base c) (ha:c.att=attL)
include B ha
theorem t14:F14b=fnD (.cons 6248426596 (.cons 5946045555 .nil)) .nil ((mk (tb1 B ha) 40).S ⟨(fnA 14).2.2,none⟩ (fnA 14).2.1).1:=by kernel_rfl
theorem sf14b:SoundFn c 2 123 F14b:=sound_mk (tb1 B ha) (fa14 B) (ps_of (ps:=(.cons 6248426596 (.cons 5946045555 .nil))) (by decide +kernel)) ds_nil 40 (t14 B ha)
end
theorem m14_sh14:F14b sh14 ⟨.nil,.nil,.lf,.o (.o .h),.nil⟩ (λv U=>coverA .nil v (.nat 26))=true:=by decide +kernel
section
variable (B:Base c) (ha:c.att=attL)
include B ha
theorem sf14:SoundFn c 2 123 F14:=(sound_callS (sh:=sh14) (r:=(.nat 26)) (nx:=.o (.o .h)) (sf14b B ha) (fa14 B) (ps_of (ps:=(.cons 6248426596 (.cons 5946045555 .nil))) (by decide +kernel)) ds_nil ((mk (tb1 B ha) 40).S ⟨(fnA 14).2.2,none⟩ (fnA 14).2.1).2 (by decide +kernel) rfl B.pin (by rw[← t14 B ha];exact m14_sh14))
theorem sf18:SoundFn c 2 149 F18:=sfn B (tb1 B ha) 18 "area_routers" "area_routers" 148 "routeloom.stubs" 337
theorem sf20:SoundFn c 2 167 F20:=sfn B (tb1 B ha) 20 "inter_nets" "inter_nets" 166 "routeloom.interarea" 398
theorem sf21:SoundFn c 2 174 F21:=sfn B (tb1 B ha) 21 "inter_routers" "inter_routers" 173 "routeloom.interarea" 398
theorem sf26:SoundFn c 2 206 F26:=sfn B (tb1 B ha) 26 "table_of" "table_of" 205 "routeloom.ospftable" 455
theorem sf36:SoundFn c 2 272 F36:=sfn B (tb1 B ha) 36 "active_ranges" "active_ranges" 271 "routeloom.areas" 587
theorem sf38:SoundFn c 2 284 F38:=sfn B (tb1 B ha) 38 "condensed_nets" "condensed_nets" 283 "routeloom.areas" 587
theorem sf41:SoundFn c 2 303 F41:=sfn B (tb1 B ha) 41 "id_for" "id_for" 302 "routeloom.areas" 587
theorem sf45:SoundFn c 2 331 F45:=sfn B (tb1 B ha) 45 "on_up" "on_up" 330 "routeloom.istate" 691
theorem sf49:SoundFn c 2 359 F49:=sfn B (tb1 B ha) 49 "stub_link" "stub_link" 358 "routeloom.origin" 741
theorem sf54:SoundFn c 2 386 F54:=sfn B (tb1 B ha) 54 "network_body" "network_body" 385 "routeloom.origin" 741
theorem sf61:SoundFn c 2 456 F61:=sfn B (tb1 B ha) 61 "due_time" "Origin.due_time" 455 "routeloom.origin" 741
theorem sf71:SoundFn c 2 556 F71:=sfn B (tb1 B ha) 71 "aged" "aged" 555 "routeloom.lsdb" 1040
theorem sf96:SoundFn c 2 743 F96:=sfn B (tb1 B ha) 96 "is_reached" "is_reached" 742 "routeloom.flooding" 1286
theorem sf98:SoundFn c 2 757 F98:=sfn B (tb1 B ha) 98 "owe_all" "owe_all" 756 "routeloom.flooding" 1286
theorem sf105:SoundFn c 2 806 F105:=sfn B (tb1 B ha) 105 "fletcher_sum" "fletcher_sum" 805 "routeloom.fletcher" 1365
theorem sf108:SoundFn c 2 825 F108:=sfn B (tb1 B ha) 108 "put_u8" "put_u8" 824 "routeloom.octets" 1401
theorem sf109:SoundFn c 2 832 F109:=sfn B (tb1 B ha) 109 "put_u16" "put_u16" 831 "routeloom.octets" 1401
theorem sf110:SoundFn c 2 839 F110:=sfn B (tb1 B ha) 110 "put_u24" "put_u24" 838 "routeloom.octets" 1401
theorem sf111:SoundFn c 2 846 F111:=sfn B (tb1 B ha) 111 "put_u32" "put_u32" 845 "routeloom.octets" 1401
theorem sf148:SoundFn c 2 1101 F148:=sfn B (tb1 B ha) 148 "checked_iface" "checked_iface" 1100 "routeloom.ospfbase" 1783
theorem sf150:SoundFn c 2 1115 F150:=sfn B (tb1 B ha) 150 "check_router" "check_router" 1114 "routeloom.ospfbase" 1783
theorem sf164:SoundFn c 2 1208 F164:=sfn B (tb1 B ha) 164 "send_row" "OspfBase.send_row" 1207 "routeloom.ospfbase" 1783
theorem sf208:SoundFn c 2 1549 F208:=sfn B (tb1 B ha) 208 "spf_tree" "spf_tree" 1548 "routeloom.spf" 2450
theorem sf210:SoundFn c 2 1570 F210:=sfn B (tb1 B ha) 210 "is_border" "OspfTell.is_border" 1569 "routeloom.ospftell" 2506
end
def fns2 (B:Base c) (ha:c.att=attL):List (Ent (FnP c 2)):=[B.eF "graph_edges" 434544516454702982007055731 116 F13 rfl rfl rfl rfl (sf13 B ha),
 B.eF "length_of" 6721923735825210634086 123 F14 rfl rfl rfl rfl (sf14 B ha),
 B.eF "area_routers" 109386504765597504100960137843 149 F18 rfl rfl rfl rfl (sf18 B ha),
 B.eF "inter_nets" 1706811829399685219841139 167 F20 rfl rfl rfl rfl (sf20 B ha),
 B.eF "inter_routers" 28635550733193670402181616202355 174 F21 rfl rfl rfl rfl (sf21 B ha),
 B.eF "table_of" 26832836272546869094 206 F26 rfl rfl rfl rfl (sf26 B ha),
 B.eF "active_ranges" 27998321116935200814202916136307 272 F36 rfl rfl rfl rfl (sf36 B ha),
 B.eF "condensed_nets" 7209083900058085123175225045120115 284 F38 rfl rfl rfl rfl (sf38 B ha),
 B.eF "id_for" 397354794905458 303 F41 rfl rfl rfl rfl (sf41 B ha),
 B.eF "on_up" 1578104747376 331 F45 rfl rfl rfl rfl (sf45 B ha),
 B.eF "stub_link" 6852133772988898700907 359 F49 rfl rfl rfl rfl (sf49 B ha),
 B.eF "network_body" 113394165100098529493169169529 386 F54 rfl rfl rfl rfl (sf54 B ha),
 B.eF "aged" 5929133412 556 F71 rfl rfl rfl rfl (sf71 B ha),
 B.eF "is_reached" 1706902553555468422767972 743 F96 rfl rfl rfl rfl (sf96 B ha),
 B.eF "owe_all" 103432593728433260 757 F98 rfl rfl rfl rfl (sf98 B ha),
 B.eF "fletcher_sum" 110926676610560083688049309037 806 F105 rfl rfl rfl rfl (sf105 B ha),
 B.eF "put_u8" 405124742608184 825 F108 rfl rfl rfl rfl (sf108 B ha),
 B.eF "put_u16" 103711934107693366 832 F109 rfl rfl rfl rfl (sf109 B ha),
 B.eF "put_u24" 103711934107693620 839 F110 rfl rfl rfl rfl (sf110 B ha),
 B.eF "put_u32" 103711934107693874 846 F111 rfl rfl rfl rfl (sf111 B ha),
 B.eF "checked_iface" 28158306704588430299785718752101 1101 F148 rfl rfl rfl rfl (sf148 B ha),
 B.eF "check_router" 109993385564796882470762210674 1115 F150 rfl rfl rfl rfl (sf150 B ha),
 B.eF "spf_tree" 26765005145624438117 1549 F208 rfl rfl rfl rfl (sf208 B ha)]++upF (fns1 B ha)
def kls2 (B:Base c) (ha:c.att=attL):List (Ent (KlP c 2)):=[.of "Told" 5711555684 (0,F56) rfl rfl ⟨407,1,by rw[B.cls];exact B.glob (k:=5711555684) rfl rfl rfl,B.kls (a:=410) rfl (by kernel_rfl),sf56 B ha,by decide⟩,
 .of "Origin" 368827789961582 (1,F57) rfl rfl ⟨428,1,by rw[B.cls];exact B.glob (k:=368827789961582) rfl rfl rfl,B.kls (a:=513) rfl (by kernel_rfl),sf57 B ha,by decide⟩,
 .of "Database" 23374091502640788325 (4,F73) rfl rfl ⟨577,1,by rw[B.cls];exact B.glob (k:=23374091502640788325) rfl rfl rfl,B.kls (a:=659) rfl (by kernel_rfl),sf73 B ha,by decide⟩]++upK (kls1 B ha)
def ms2 (B:Base c) (ha:c.att=attL):List (Ent (λn ml=>MsAt c 2 n ml)):=[.of "due_time" 25685547510426856805 (.cons 1 F61 .nil) rfl rfl (B.ms (C:=513) rfl (by kernel_rfl) ((sf61 B ha).up (by decide)) .nil),
 .of "is_border" 6667588082277097432434 (.cons 9 F210 .nil) rfl rfl (B.ms (C:=1614) rfl (by kernel_rfl) ((sf210 B ha).up (by decide)) .nil),
 .of "send_row" 26761917738096160631 (.cons 9 F164 .nil) rfl rfl (B.ms (C:=1614) rfl (by kernel_rfl) ((sf164 B ha).up (by decide)) .nil)]++upM (ms1 B ha)
def tb2 (B:Base c) (ha:c.att=attL):Tab c 2:=mkTab B ha 2 (fns2 B ha) (kls2 B ha) (ms2 B ha)
section
variable (B:Base c) (ha:c.att=attL)
include B ha
theorem sf16:SoundFn c 3 135 F16:=sfn B (tb2 B ha) 16 "stub_links" "stub_links" 134 "routeloom.stubs" 337
theorem sf37:SoundFn c 3 277 F37:=sfn B (tb2 B ha) 37 "dropped_ranges" "dropped_ranges" 276 "routeloom.areas" 587
theorem sf39:SoundFn c 3 291 F39:=sfn B (tb2 B ha) 39 "nets_for" "nets_for" 290 "routeloom.areas" 587
theorem sf42:SoundFn c 3 308 F42:=sfn B (tb2 B ha) 42 "numbered_nets" "numbered_nets" 307 "routeloom.areas" 587
theorem sf47:SoundFn c 3 345 F47:=sfn B (tb2 B ha) 47 "next_state" "next_state" 344 "routeloom.istate" 691
theorem sf52:SoundFn c 3 374 F52:=sfn B (tb2 B ha) 52 "iface_links" "iface_links" 373 "routeloom.origin" 741
theorem sf67:SoundFn c 3 496 F67:=sfn B (tb2 B ha) 67 "told_anew" "Origin.told_anew" 495 "routeloom.origin" 741
theorem sf75:SoundFn c 3 591 F75:=sfn B (tb2 B ha) 75 "look" "Database.look" 590 "routeloom.lsdb" 1040
theorem sf100:SoundFn c 3 771 F100:=sfn B (tb2 B ha) 100 "flooded" "flooded" 770 "routeloom.flooding" 1286
theorem sf112:SoundFn c 3 853 F112:=sfn B (tb2 B ha) 112 "put_link" "put_link" 852 "routeloom.lsaform" 1437
theorem sf114:SoundFn c 3 865 F114:=sfn B (tb2 B ha) 114 "put_head" "put_head" 864 "routeloom.lsaform" 1437
theorem sf151:SoundFn c 3 1127 F151:=sfn B (tb2 B ha) 151 "__init__" "OspfBase.__init__" 1126 "routeloom.ospfbase" 1783
end
def fns3 (B:Base c) (ha:c.att=attL):List (Ent (FnP c 3)):=[B.eF "stub_links" 1754146245885158067432307 135 F16 rfl rfl rfl rfl (sf16 B ha),
 B.eF "dropped_ranges" 7229604318193178171410115784566131 277 F37 rfl rfl rfl rfl (sf37 B ha),
 B.eF "nets_for" 26401636429400010610 291 F39 rfl rfl rfl rfl (sf39 B ha),
 B.eF "numbered_nets" 29033849463947462504581832209523 308 F42 rfl rfl rfl rfl (sf42 B ha),
 B.eF "next_state_istate" 124678223756582699244263901545801533453413 345 F47 rfl rfl rfl rfl (sf47 B ha),
 B.eF "iface_links" 436905698758544687339826035 374 F52 rfl rfl rfl rfl (sf52 B ha),
 B.eF "flooded" 100887267528435044 771 F100 rfl rfl rfl rfl (sf100 B ha),
 B.eF "put_link" 26550255131422191211 853 F112 rfl rfl rfl rfl (sf112 B ha),
 B.eF "put_head" 26550255131354816868 865 F114 rfl rfl rfl rfl (sf114 B ha)]++upF (fns2 B ha)
def kls3 (B:Base c) (ha:c.att=attL):List (Ent (KlP c 3)):=[]++upK (kls2 B ha)
def ms3 (B:Base c) (ha:c.att=attL):List (Ent (λn ml=>MsAt c 3 n ml)):=[.of "__init__" 25319071553036771167 (.cons 0 F56 (.cons 1 F57 (.cons 4 F73 (.cons 9 F151 .nil)))) rfl rfl (B.ms (C:=410) rfl (by kernel_rfl) ((sf56 B ha).up (by decide)) (B.ms (C:=513) rfl (by kernel_rfl) ((sf57 B ha).up (by decide)) (B.ms (C:=659) rfl (by kernel_rfl) ((sf73 B ha).up (by decide)) (B.ms (C:=1614) rfl (by kernel_rfl) ((sf151 B ha).up (by decide)) .nil)))),
 .of "told_anew" 6870217698016467248503 (.cons 1 F67 .nil) rfl rfl (B.ms (C:=513) rfl (by kernel_rfl) ((sf67 B ha).up (by decide)) .nil),
 .of "look" 6114209643 (.cons 4 F75 .nil) rfl rfl (B.ms (C:=659) rfl (by kernel_rfl) ((sf75 B ha).up (by decide)) .nil)]++upM (ms2 B ha)
def tb3 (B:Base c) (ha:c.att=attL):Tab c 3:=mkTab B ha 3 (fns3 B ha) (kls3 B ha) (ms3 B ha)
section
variable (B:Base c) (ha:c.att=attL)
include B ha
theorem sf17:SoundFn c 4 142 F17:=sfn B (tb3 B ha) 17 "area_nets" "area_nets" 141 "routeloom.stubs" 337
theorem sf43:SoundFn c 4 315 F43:=sfn B (tb3 B ha) 43 "summaries_for" "summaries_for" 314 "routeloom.areas" 587
theorem sf53:SoundFn c 4 379 F53:=sfn B (tb3 B ha) 53 "router_body" "router_body" 378 "routeloom.origin" 741
theorem sf66:SoundFn c 4 489 F66:=sfn B (tb3 B ha) 66 "tell" "Origin.tell" 488 "routeloom.origin" 741
theorem sf113:SoundFn c 4 858 F113:=sfn B (tb3 B ha) 113 "put_body" "put_body" 857 "routeloom.lsaform" 1437
theorem sf146:SoundFn c 4 1077 F146:=sfn B (tb3 B ha) 146 "iface_event" "iface_event" 1076 "routeloom.ospfiface" 1703
theorem sf160:SoundFn c 4 1182 F160:=sfn B (tb3 B ha) 160 "look" "OspfBase.look" 1181 "routeloom.ospfbase" 1783
theorem sf209:SoundFn c 4 1556 F209:=sfn B (tb3 B ha) 209 "own_ways" "own_ways" 1555 "routeloom.ospftell" 2506
theorem sf215:SoundFn c 4 1597 F215:=sfn B (tb3 B ha) 215 "external_wishes" "OspfTell.external_wishes" 1596 "routeloom.ospftell" 2506
end
def fns4 (B:Base c) (ha:c.att=attL):List (Ent (FnP c 4)):=[B.eF "area_nets" 6519943759774945211507 142 F17 rfl rfl rfl rfl (sf17 B ha),
 B.eF "summaries_for" 29429990328391029654905877327730 315 F43 rfl rfl rfl rfl (sf43 B ha),
 B.eF "router_body" 447828902593303584323888249 379 F53 rfl rfl rfl rfl (sf53 B ha),
 B.eF "put_body" 26550255131254809721 858 F113 rfl rfl rfl rfl (sf113 B ha),
 B.eF "iface_event" 436905698758544657492569716 1077 F146 rfl rfl rfl rfl (sf146 B ha),
 B.eF "own_ways" 26478753890451945843 1556 F209 rfl rfl rfl rfl (sf209 B ha)]++upF (fns3 B ha)
def kls4 (B:Base c) (ha:c.att=attL):List (Ent (KlP c 4)):=[.of "OspfTell" 24171787209832492140 (9,F151) rfl rfl ⟨1127,3,by rw[B.cls];exact B.glob (k:=24171787209832492140) rfl rfl rfl,B.kls (a:=1614) rfl (by kernel_rfl),sf151 B ha,by decide⟩]++upK (kls3 B ha)
def ms4 (B:Base c) (ha:c.att=attL):List (Ent (λn ml=>MsAt c 4 n ml)):=[.of "tell" 6247771244 (.cons 1 F66 .nil) rfl rfl (B.ms (C:=513) rfl (by kernel_rfl) ((sf66 B ha).up (by decide)) .nil),
 .of "look" 6114209643 (.cons 4 F75 (.cons 9 F160 .nil)) rfl rfl (B.ms (C:=659) rfl (by kernel_rfl) ((sf75 B ha).up (by decide)) (B.ms (C:=1614) rfl (by kernel_rfl) ((sf160 B ha).up (by decide)) .nil)),
 .of "external_wishes" 1856093089512548111347723762378761587 (.cons 9 F215 .nil) rfl rfl (B.ms (C:=1614) rfl (by kernel_rfl) ((sf215 B ha).up (by decide)) .nil)]++upM (ms3 B ha)
def tb4 (B:Base c) (ha:c.att=attL):Tab c 4:=mkTab B ha 4 (fns4 B ha) (kls4 B ha) (ms4 B ha)
section
variable (B:Base c) (ha:c.att=attL)
include B ha
theorem sf55:SoundFn c 5 393 F55:=sfn B (tb4 B ha) 55 "wishes_of" "wishes_of" 392 "routeloom.origin" 741
theorem sf65:SoundFn c 5 482 F65:=sfn B (tb4 B ha) 65 "due" "Origin.due" 481 "routeloom.origin" 741
theorem sf74:SoundFn c 5 584 F74:=sfn B (tb4 B ha) 74 "put" "Database.put" 583 "routeloom.lsdb" 1040
theorem sf79:SoundFn c 5 617 F79:=sfn B (tb4 B ha) 79 "all_rows" "Database.all_rows" 616 "routeloom.lsdb" 1040
end
theorem fa115 (B:Base c):FnAt c 872 (fdA 115 "total_of" "total_of" 871 .none .none (.str "routeloom.lsaform" 1437)) (fnA 115).2.1 ["lsa"] []:=fnAt_of' B (by kernel_rfl) (by kernel_rfl) (by decide +kernel) (by decide +kernel) (.inl ⟨rfl,rfl⟩) (by decide)
section
variable (B:Base c) (ha:c.att=attL)
include B ha
theorem t115:F115b=fnD (.cons 23884641 .nil) .nil ((mk (tb4 B ha) 40).S ⟨(fnA 115).2.2,none⟩ (fnA 115).2.1).1:=by kernel_rfl
theorem sf115b:SoundFn c 5 872 F115b:=sound_mk (tb4 B ha) (fa115 B) (ps_of (ps:=(.cons 23884641 .nil)) (by decide +kernel)) ds_nil 40 (t115 B ha)
end
theorem m115_sh0:F115b sh0 ⟨.nil,.nil,.lf,.o (.o .h),.nil⟩ (λv U=>coverA .nil v .any)=true:=by decide +kernel
theorem m115_sh1:F115b sh1 ⟨.nil,.nil,.lf,.o (.o .h),.nil⟩ (λv U=>coverA .nil v .any)=true:=by decide +kernel
theorem m115_sh2:F115b sh2 ⟨.nil,.nil,.lf,.o (.o .h),.nil⟩ (λv U=>coverA .nil v .any)=true:=by decide +kernel
theorem m115_sh3:F115b sh3 ⟨.nil,.nil,.lf,.o (.o .h),.nil⟩ (λv U=>coverA .nil v .any)=true:=by decide +kernel
section
variable (B:Base c) (ha:c.att=attL)
include B ha
theorem sf115:SoundFn c 5 872 F115:=(sound_callS (sh:=sh0) (r:=.any) (nx:=.o (.o .h)) (sound_callS (sh:=sh1) (r:=.any) (nx:=.o (.o .h)) (sound_callS (sh:=sh2) (r:=.any) (nx:=.o (.o .h)) (sound_callS (sh:=sh3) (r:=.any) (nx:=.o (.o .h)) (sf115b B ha) (fa115 B) (ps_of (ps:=(.cons 23884641 .nil)) (by decide +kernel)) ds_nil ((mk (tb4 B ha) 40).S ⟨(fnA 115).2.2,none⟩ (fnA 115).2.1).2 (by decide +kernel) rfl B.pin (by rw[← t115 B ha];exact m115_sh3)) (fa115 B) (ps_of (ps:=(.cons 23884641 .nil)) (by decide +kernel)) ds_nil ((mk (tb4 B ha) 40).S ⟨(fnA 115).2.2,none⟩ (fnA 115).2.1).2 (by decide +kernel) rfl B.pin (by rw[← t115 B ha];exact m115_sh2)) (fa115 B) (ps_of (ps:=(.cons 23884641 .nil)) (by decide +kernel)) ds_nil ((mk (tb4 B ha) 40).S ⟨(fnA 115).2.2,none⟩ (fnA 115).2.1).2 (by decide +kernel) rfl B.pin (by rw[← t115 B ha];exact m115_sh1)) (fa115 B) (ps_of (ps:=(.cons 23884641 .nil)) (by decide +kernel)) ds_nil ((mk (tb4 B ha) 40).S ⟨(fnA 115).2.2,none⟩ (fnA 115).2.1).2 (by decide +kernel) rfl B.pin (by rw[← t115 B ha];exact m115_sh0))
theorem sf187:SoundFn c 5 1407 F187:=sfn B (tb4 B ha) 187 "at_iface" "OspfTalk.at_iface" 1406 "routeloom.ospftalk" 2275
theorem sf214:SoundFn c 5 1592 F214:=sfn B (tb4 B ha) 214 "summary_wishes" "OspfTell.summary_wishes" 1591 "routeloom.ospftell" 2506
theorem sf219:SoundFn c 5 1630 F219:=sfn B (tb4 B ha) 219 "_law_router" "_law_router" 1629 "law_rh0220_01" 2610
end
def fns5 (B:Base c) (ha:c.att=attL):List (Ent (FnP c 5)):=[B.eF "wishes_of" 6925127559422322634598 393 F55 rfl rfl rfl rfl (sf55 B ha),
 B.eF "total_of" 26836796666302918502 872 F115 rfl rfl rfl rfl (sf115 B ha),
 B.eF "_law_router" 424844776200779548169889138 1630 F219 rfl rfl rfl rfl (sf219 B ha)]++upF (fns4 B ha)
def kls5 (B:Base c) (ha:c.att=attL):List (Ent (KlP c 5)):=[]++upK (kls4 B ha)
def ms5 (B:Base c) (ha:c.att=attL):List (Ent (λn ml=>MsAt c 5 n ml)):=[.of "due" 23360869 (.cons 1 F65 .nil) rfl rfl (B.ms (C:=513) rfl (by kernel_rfl) ((sf65 B ha).up (by decide)) .nil),
 .of "put" 24147316 (.cons 4 F74 .nil) rfl rfl (B.ms (C:=659) rfl (by kernel_rfl) ((sf74 B ha).up (by decide)) .nil),
 .of "all_rows" 25466849150070912883 (.cons 4 F79 .nil) rfl rfl (B.ms (C:=659) rfl (by kernel_rfl) ((sf79 B ha).up (by decide)) .nil),
 .of "summary_wishes" 7534077524068104742893000556307827 (.cons 9 F214 .nil) rfl rfl (B.ms (C:=1614) rfl (by kernel_rfl) ((sf214 B ha).up (by decide)) .nil),
 .of "at_iface" 25469086698980860773 (.cons 9 F187 .nil) rfl rfl (B.ms (C:=1614) rfl (by kernel_rfl) ((sf187 B ha).up (by decide)) .nil)]++upM (ms4 B ha)
def tb5 (B:Base c) (ha:c.att=attL):Tab c 5:=mkTab B ha 5 (fns5 B ha) (kls5 B ha) (ms5 B ha)
section
variable (B:Base c) (ha:c.att=attL)
include B ha
theorem sf116:SoundFn c 6 879 F116:=sfn B (tb5 B ha) 116 "summed" "summed" 878 "routeloom.lsaform" 1437
theorem sf165:SoundFn c 6 1215 F165:=sfn B (tb5 B ha) 165 "take_row" "OspfBase.take_row" 1214 "routeloom.ospfbase" 1783
theorem sf211:SoundFn c 6 1577 F211:=sfn B (tb5 B ha) 211 "area_ways" "OspfTell.area_ways" 1576 "routeloom.ospftell" 2506
theorem sf220:SoundFn c 6 1635 F220:=sfn B (tb5 B ha) 220 "_law_right" "_law_right" 1634 "law_rh0220_01" 2610
end
def fns6 (B:Base c) (ha:c.att=attL):List (Ent (FnP c 6)):=[B.eF "summed" 408423160964452 879 F116 rfl rfl rfl rfl (sf116 B ha),
 B.eF "_law_right" 1659549907034295008454772 1635 F220 rfl rfl rfl rfl (sf220 B ha)]++upF (fns5 B ha)
def kls6 (B:Base c) (ha:c.att=attL):List (Ent (KlP c 6)):=[]++upK (kls5 B ha)
def ms6 (B:Base c) (ha:c.att=attL):List (Ent (λn ml=>MsAt c 6 n ml)):=[.of "area_ways" 6519943759775095945587 (.cons 9 F211 .nil) rfl rfl (B.ms (C:=1614) rfl (by kernel_rfl) ((sf211 B ha).up (by decide)) .nil),
 .of "take_row" 26832846137987329911 (.cons 9 F165 .nil) rfl rfl (B.ms (C:=1614) rfl (by kernel_rfl) ((sf165 B ha).up (by decide)) .nil)]++upM (ms5 B ha)
def tb6 (B:Base c) (ha:c.att=attL):Tab c 6:=mkTab B ha 6 (fns6 B ha) (kls6 B ha) (ms6 B ha)
section
variable (B:Base c) (ha:c.att=attL)
include B ha
theorem sf166:SoundFn c 7 1222 F166:=sfn B (tb6 B ha) 166 "tell_row" "OspfBase.tell_row" 1221 "routeloom.ospfbase" 1783
theorem sf212:SoundFn c 7 1582 F212:=sfn B (tb6 B ha) 212 "ways_within" "OspfTell.ways_within" 1581 "routeloom.ospftell" 2506
end
def fns7 (B:Base c) (ha:c.att=attL):List (Ent (FnP c 7)):=[]++upF (fns6 B ha)
def kls7 (B:Base c) (ha:c.att=attL):List (Ent (KlP c 7)):=[]++upK (kls6 B ha)
def ms7 (B:Base c) (ha:c.att=attL):List (Ent (λn ml=>MsAt c 7 n ml)):=[.of "ways_within" 453807492273851946913786222 (.cons 9 F212 .nil) rfl rfl (B.ms (C:=1614) rfl (by kernel_rfl) ((sf212 B ha).up (by decide)) .nil),
 .of "tell_row" 26833973167470571383 (.cons 9 F166 .nil) rfl rfl (B.ms (C:=1614) rfl (by kernel_rfl) ((sf166 B ha).up (by decide)) .nil)]++upM (ms6 B ha)
def tb7 (B:Base c) (ha:c.att=attL):Tab c 7:=mkTab B ha 7 (fns7 B ha) (kls7 B ha) (ms7 B ha)
section
variable (B:Base c) (ha:c.att=attL)
include B ha
theorem sf216:SoundFn c 8 1604 F216:=sfn B (tb7 B ha) 216 "wish_all" "OspfTell.wish_all" 1603 "routeloom.ospftell" 2506
end
def fns8 (B:Base c) (ha:c.att=attL):List (Ent (FnP c 8)):=[]++upF (fns7 B ha)
def kls8 (B:Base c) (ha:c.att=attL):List (Ent (KlP c 8)):=[]++upK (kls7 B ha)
def ms8 (B:Base c) (ha:c.att=attL):List (Ent (λn ml=>MsAt c 8 n ml)):=[.of "wish_all" 27051279528891608172 (.cons 9 F216 .nil) rfl rfl (B.ms (C:=1614) rfl (by kernel_rfl) ((sf216 B ha).up (by decide)) .nil)]++upM (ms7 B ha)
def tb8 (B:Base c) (ha:c.att=attL):Tab c 8:=mkTab B ha 8 (fns8 B ha) (kls8 B ha) (ms8 B ha)
section
variable (B:Base c) (ha:c.att=attL)
include B ha
theorem sf217:SoundFn c 9 1611 F217:=sfn B (tb8 B ha) 217 "tell_all" "OspfTell.tell_all" 1610 "routeloom.ospftell" 2506
end
def fns9 (B:Base c) (ha:c.att=attL):List (Ent (FnP c 9)):=[]++upF (fns8 B ha)
def kls9 (B:Base c) (ha:c.att=attL):List (Ent (KlP c 9)):=[]++upK (kls8 B ha)
def ms9 (B:Base c) (ha:c.att=attL):List (Ent (λn ml=>MsAt c 9 n ml)):=[.of "tell_all" 26833973167469456492 (.cons 9 F217 .nil) rfl rfl (B.ms (C:=1614) rfl (by kernel_rfl) ((sf217 B ha).up (by decide)) .nil)]++upM (ms8 B ha)
def tb9 (B:Base c) (ha:c.att=attL):Tab c 9:=mkTab B ha 9 (fns9 B ha) (kls9 B ha) (ms9 B ha)
end
theorem eqbP_true:∀{p q:P},P.eqb p q=true->p=q
 | .h,.h,_=>rfl
 | .o p,.o q,e=>congrArg P.o (eqbP_true (show P.eqb p q=true from e))
 | .i p,.i q,e=>congrArg P.i (eqbP_true (show P.eqb p q=true from e))
 | .h,.o _,e=>fF e
 | .h,.i _,e=>fF e
 | .o _,.h,e=>fF e
 | .o _,.i _,e=>fF e
 | .i _,.h,e=>fF e
 | .i _,.o _,e=>fF e
def unpin (q:P) (L:AV) (a:C):C:=λs k=>a s λv s=>isLoc v λp=>ite (P.eqb p q) (k (.lst L) s) false
structure PinL (c:Cf) (q:P) (L:AV):Prop where
 is:∃a o vs n ds,c.pin q=some a∧c.base.get? a=some o∧(o.cls=.type "list"∧o.data=.seq vs n∧o.dict=none)∧vs.size≤10000∧RdL c.wo.params w0 c.base ds vs.toList∧ConcL c.ρ L ds
def bAbsL:AV->St->K AV->Bool:=λx s k=>
 AV.rec (motive:=λU=>Bool) false (λU=>false) (λn=>k (.nat n) s) (λn=>k (.nat (Nat.succ n)) s) (λU U=>false) (λU U=>false) false (λU=>false) false (λU U=>false) (λU U=>false) (λU U=>false) (λU U=>false) (λU=>false) false (λU U U U=>false) (λU U U U U U=>false) x
section
variable {c:Cf} {lvl:Nat} {x:Cx}
theorem sound_unpin {e:Expr} {a:C} {q:P} {L:AV} (Pn:PinL c q L) (H:SoundE c lvl x e a):SoundE c lvl x e (unpin q L a):=by
 intro f w s σ A Q E k fo h rel rm post
 refine H f w s σ A Q E _ fo h rel rm ?_
 intro v s1 w1 σ1 d rv e1 rel1 X1 C1 r1
 obtain ⟨p,rfl,e1⟩:=isLoc_true (show (isLoc v λp=>ite (P.eqb p q) (k (.lst L) s1) false)=true from e1)
 rcases ite_true e1 with ⟨e2,e3⟩|⟨_,e3⟩
 · have:=eqbP_true e2
   subst this
   obtain ⟨al,o,vs,n,ds,h1,h2,⟨z1,z2,z3⟩,h3,h4,h5⟩:=Pn.is
   cases C1
   cases r1 with
   |loc hp=>
   have hp':=rel1.pin _ _ h1
   rw[hp] at hp'
   cases hp'
   exact post _ s1 w1 σ1 (.lst ds) _ e3 rel1 X1 (.lst h5) (.lst (rel1.base _ _ h2).1 z1 z2 ⟨(rel1.base _ _ h2).2,h3⟩ (h4.extR rel1.toBase) z3)
 · cases e3
theorem soundV_abs:SoundV1 c (.builtin "abs") bAbsL:=by
 intro f w s σ A Q E k x d rv h rel rm C r post
 cases C with
 |nat n=>
  cases r
  refine call_abs_int λu tk=>post _ s w _ (.int _) _ (show k (.nat n) s=true from h) rel.toks (.refl _ _) (.nat' ?_) (.int _ _)
  rw[if_neg (by omega)]
 |neg n=>
  cases r
  refine call_abs_int λu tk=>post _ s w _ (.int _) _ (show k (.nat (Nat.succ n)) s=true from h) rel.toks (.refl _ _) (.nat' ?_) (.int _ _)
  rw[if_pos (by omega)]
  omega
 |_=>exact fF h
def isAbs (tb:Tab c lvl) (g:GlobV c "abs" (.builtin "abs")) (m:Mk c lvl) (x:Cx) (e:Expr):RE c lvl x e:=
 onCall e (stepE tb m x) λf es kw pos=>onName f (λf=>stepE tb m x _) λn p=>oneQ es (stepE tb m x _) λe h0=>by
  cases kw with
  |nil=>exact if h:n="abs" then if hd:(n==("__debug__":Str))=false then if hx:x.glob n=true then if hp:plainArg e=true then (m.E x e).bind λa=>some ⟨b1 bAbsL a.1,by rw[h0];subst h;exact sound_b1 hx g hd rfl soundV_abs a.2 hp⟩ else none else none else none else stepE tb m x _
  |cons=>exact stepE tb m x _
def stepED (tb:Tab c lvl) (g:GlobV c "abs" (.builtin "abs")) {q:P} {L:AV} (Pn:PinL c q L) (m:Mk c lvl) (x:Cx) (e:Expr):RE c lvl x e:=
 onSub e (isAbs tb g m x) λv s pos=>onName v (λv=>stepE tb m x _) λn p=>onConst s (λs=>stepE tb m x _) λc0 k ps=>if h:n="pool"∧c0=.int 0 then (stepE tb m x (.Subscript (.Name n p) (.Constant c0 k ps) pos)).bind λa=>some ⟨unpin q L a.1,by obtain ⟨_,e⟩:=h;subst e;exact sound_unpin Pn a.2⟩ else stepE tb m x _
def stepAD (tb:Tab c lvl) (m:Mk c lvl) (x:Cx):∀e,RA c lvl x e
 | .Subscript o i pos=>(m.E x o).bind λa=>(m.E x i).bind λb=>some ⟨tIdxL a.1 b.1,sound_tIdxL a.2 b.2⟩
 |e=>stepA tb m x e
def mkD (tb:Tab c lvl) (g:GlobV c "abs" (.builtin "abs")) {q:P} {L:AV} (Pn:PinL c q L) (n:Nat):Mk c lvl:=
 Nat.rec (motive:=λU=>Mk c lvl) ⟨λU U=>none,λU U=>none,λU U=>none,λU U=>none,λU U=>⟨badS,sound_badS⟩⟩ (λU m=>⟨stepED tb g Pn m,stepT tb m,stepAD tb m,stepI tb m,stepS tb m⟩) n
theorem SoundE.weak {e:Expr} {a a':C} (H:SoundE c lvl x e a)
  (h:∀s k,a' s k=true->a s (λv s'=>@decide (∃v',(∀d,Conc c.ρ v d->Conc c.ρ v' d)∧k v' s'=true) (Classical.propDecidable _))=true):SoundE c lvl x e a':=by
 intro f w s σ A Q E k fo h0 rel rm post
 refine H f w s σ A Q E _ fo (h s k h0) rel rm ?_
 intro v s1 w1 σ1 d rv e1 rel1 X1 C1 r1
 obtain ⟨v',hv,hk⟩:=@of_decide_eq_true _ (Classical.propDecidable _) e1
 exact post v' s1 w1 σ1 d rv hk rel1 X1 (hv d C1) r1
end
noncomputable def litA:Int->AV
 | .ofNat n=>.nat n
 | .negSucc n=>.neg n
noncomputable def litL:List Int->AV
 |[]=>.nil
 |z::zs=>.cons (litA z) (litL zs)
theorem litA_conc (ρ:Rho) (z:Int):Conc ρ (litA z) (.int z):=by
 cases z with
 |ofNat n=>exact .nat n
 |negSucc n=>exact .neg n
theorem litL_conc (ρ:Rho):∀zs:List Int,ConcL ρ (litL zs) (zs.map CD.int)
 |[]=>.nil
 |z::zs=>.cons (litA_conc ρ z) (litL_conc ρ zs)
theorem litL_len:∀zs:List Int,lenA (litL zs)=zs.length
 |[]=>rfl
 |z::zs=>by show Nat.succ (lenA (litL zs))=_;rw[litL_len zs];rfl
theorem litL_nth {k:AV->Bool}:∀(zs:List Int) (i:Nat) (z:Int),zs[i]?=some z->nthA (litL zs) i k=k (litA z)
 |[],i,z,h=>by simp at h
 |y::zs,0,z,h=>by cases h;rfl
 |y::zs,i+1,z,h=>by
  have h:zs[i]?=some z:=by simpa using h
  exact litL_nth zs i z h
noncomputable def drw (zs:List Int) (i many:Nat):Nat:=match zs[i]? with
 |some z=>z.natAbs%many
 |none=>(3*i+i/4+1)%many
noncomputable abbrev v_pool:Nat:=6181318508
noncomputable abbrev v_many:Nat:=6130069113
noncomputable abbrev v_spot:Nat:=6231715700
noncomputable abbrev qz:P:=.o .h
def Draw (zs:List Int):F:=fnD (.cons v_pool (.cons v_many .nil)) .nil
 (sq (asg (tVar v_spot) (idx (var v_pool) (cst (.nat 1))))
 (sq (asg (tIdxL (var v_pool) (cst (.nat 1))) (bin oAdd (var v_spot) (cst (.nat 1))))
 (sq (ifS (cmp cLt (var v_spot) (b1 bLen (unpin qz (litL zs) (idx (var v_pool) (cst (.nat 0)))))) (retS (bin oMod (b1 bAbsL (idx (unpin qz (litL zs) (idx (var v_pool) (cst (.nat 0)))) (var v_spot))) (var v_many))) skip)
 (retS (bin oMod (bin oAdd (bin oAdd (bin oMul (cst (.nat 3)) (var v_spot)) (bin oDiv (var v_spot) (cst (.nat 4)))) (cst (.nat 1))) (var v_many))))))
noncomputable abbrev poolO (i:Nat):AObj:=.list (.cons (.loc qz) (.cons (.nat i) .nil))
theorem oMod_nat {n m:Nat} {s:St} {k:K AV} (hm:0<m) (h:k (.nat (n%m)) s=true):oMod (.nat n) (.nat m) s k=true:=by
 obtain ⟨m,rfl⟩:∃j,m=j+1:=⟨m-1,by omega⟩
 exact h
theorem bAbsL_lit {z:Int} {s:St} {k:K AV} (h:k (.nat z.natAbs) s=true):bAbsL (litA z) s k=true:=by
 cases z with
 |ofNat n=>exact h
 |negSucc n=>exact h
theorem draw_eval {zs:List Int} {p:P} {i many:Nat} {s:St} {k:K AV} (hz:zs.length≤16) (hi:i<100) (hm:0<many) (h:HT.find p s.hp=some (poolO i)) (hk:k (.nat (drw zs i many)) (setO p (poolO (i+1)) s)=true):
  Draw zs (.cons (.loc p) (.cons (.nat many) .nil)) s k=true:=by
 show HT.get p s.hp _=true
 refine HT.get_of h ?_
 show HT.get p s.hp _=true
 refine HT.get_of h ?_
 show HT.get p (HT.put p (poolO (i+1)) s.hp) _=true
 refine HT.get_of (HT.find_put _ _ _) ?_
 show ok4 (lenA (litL zs)) _=true
 rw[litL_len]
 have h4:Nat.ble zs.length 10000=true:=Nat.ble_eq_true_of_le (by omega)
 unfold ok4
 rw[h4]
 cases e:zs[i]? with
 |some z=>
  have hlt:i<zs.length:=(List.getElem?_eq_some_iff.mp e).1
  have hb:Nat.ble zs.length i=false:=by
   cases q:Nat.ble zs.length i with
   |false=>rfl
   |true=>exact absurd (Nat.le_of_ble_eq_true q) (by omega)
  have hd:drw zs i many=z.natAbs%many:=by unfold drw;rw[e]
  show (Bool.rec (motive:=λU=>Bool) _ _ (Nat.ble zs.length i):Bool)=true
  rw[hb]
  show HT.get p (HT.put p (poolO (i+1)) s.hp) _=true
  refine HT.get_of (HT.find_put _ _ _) ?_
  show nthA (litL zs) i _=true
  rw[litL_nth zs i z e]
  refine bAbsL_lit ?_
  refine oMod_nat hm ?_
  rw[← hd]
  exact hk
 |none=>
  have hle:zs.length≤i:=List.getElem?_eq_none_iff.mp e
  have hb:Nat.ble zs.length i=true:=Nat.ble_eq_true_of_le hle
  have hd:drw zs i many=(3*i+i/4+1)%many:=by unfold drw;rw[e]
  show (Bool.rec (motive:=λU=>Bool) _ _ (Nat.ble zs.length i):Bool)=true
  rw[hb]
  refine oMod_nat (n:=3*i+i/4+1) hm ?_
  rw[← hd]
  exact hk
def FD (D:Nat->Nat->(AV->Bool)->Bool):F:=λvs s k=>isCons vs λp r=>isCons r λm r2=>isNil r2 (isLoc p λp=>isNat m λmany=>HT.get p s.hp λo=>isList o λxs=>isCons xs λX r=>isCons r λsp r3=>isNil r3
 (isLoc X λq=>isNat sp λi=>ite (and (P.eqb q qz) (and (Nat.ble i 99) (Nat.ble 1 many))) (D i many λv=>k v (setO p (poolO (Nat.succ i)) s)) false))
def DOk (ρ:Rho) (zs:List Int) (D:Nat->Nat->(AV->Bool)->Bool):Prop:=∀i many k,D i many k=true->∃v,Conc ρ v (.int (drw zs i many:Nat))∧k v=true
theorem FD_true {D:Nat->Nat->(AV->Bool)->Bool} {vs:AV} {s:St} {k:K AV} (h:FD D vs s k=true):∃p i many,vs=.cons (.loc p) (.cons (.nat many) .nil)∧HT.find p s.hp=some (poolO i)∧i<100∧0<many∧D i many (λv=>k v (setO p (poolO (i+1)) s))=true:=by
 obtain ⟨p,r,rfl,h1⟩:=isCons_true (show isCons vs _=true from h)
 try clear h
 obtain ⟨m,r2,rfl,h2⟩:=isCons_true h1
 try clear h1
 obtain ⟨rfl,h3⟩:=isNil_true h2
 try clear h2
 obtain ⟨p,rfl,h4⟩:=isLoc_true h3
 try clear h3
 obtain ⟨many,rfl,h5⟩:=isNat_true h4
 try clear h4
 obtain ⟨o,ho,h⟩:=HT.get_true h5
 cases o with
 |dict _ _=>exact fF h
 |inst _ _=>exact fF h
 |list xs=>
  obtain ⟨X,r,rfl,h1⟩:=isCons_true (show isCons xs _=true from h)
  obtain ⟨sp,r3,rfl,h2⟩:=isCons_true h1
  obtain ⟨rfl,h3⟩:=isNil_true h2
  obtain ⟨q,rfl,h4⟩:=isLoc_true h3
  obtain ⟨i,rfl,h6⟩:=isNat_true h4
  rcases ite_true h6 with ⟨e,h7⟩|⟨_,h7⟩
  · rw[Bool.and_eq_true,Bool.and_eq_true] at e
    have:=eqbP_true e.1
    subst this
    exact ⟨p,i,many,rfl,ho,Nat.lt_succ_of_le (Nat.le_of_ble_eq_true e.2.1),Nat.le_of_ble_eq_true e.2.2,h7⟩
  · cases h7
theorem FD_of {D:Nat->Nat->(AV->Bool)->Bool} {p:P} {i many:Nat} {s:St} {k:K AV} (hf:HT.find p s.hp=some (poolO i)) (hi:i<100) (hm:0<many) (h:D i many (λv=>k v (setO p (poolO (i+1)) s))=true):FD D (.cons (.loc p) (.cons (.nat many) .nil)) s k=true:=by
 show HT.get p s.hp _=true
 refine HT.get_of hf ?_
 have e:and (P.eqb qz qz) (and (Nat.ble i 99) (Nat.ble 1 many))=true:=by
  rw[Nat.ble_eq_true_of_le (Nat.le_of_lt_succ hi),Nat.ble_eq_true_of_le hm]
  rfl
 show ite (and (P.eqb qz qz) (and (Nat.ble i 99) (Nat.ble 1 many))) _ false=true
 rw[e]
 exact h
section
variable {c:Cf} {lvl:Nat} {x:Cx}
theorem sound_FD {zs:List Int} {a:Addr} {D:Nat->Nat->(AV->Bool)->Bool} (H:SoundFn c lvl a (Draw zs)) (hz:zs.length≤16) (hD:DOk c.ρ zs D):SoundFn c lvl a (FD D):=by
 intro f w s σ A R k v ds vs h rel rm C r post
 obtain ⟨p,i,many,rfl,hf,hi,hm,h⟩:=FD_true h
 obtain ⟨u,Cu,hk⟩:=hD _ _ _ h
 refine H f w s σ A R (λv s'=>@decide (v=.nat (drw zs i many)∧s'=setO p (poolO (i+1)) s) (Classical.propDecidable _)) _ ds vs (draw_eval hz hi hm hf (@decide_eq_true _ (Classical.propDecidable _) ⟨rfl,rfl⟩)) rel rm C r ?_
 intro v' s' w' σ' d rv e rel' X' C' r'
 obtain ⟨rfl,rfl⟩:=@of_decide_eq_true _ (Classical.propDecidable _) e
 cases C'
 exact post u _ w' σ' _ rv hk rel' X' Cu r'
end
noncomputable abbrev v_now:Nat:=24014711
noncomputable abbrev v_number:Nat:=402925602104690
noncomputable abbrev v_up:Nat:=95600
noncomputable abbrev v_turn:Nat:=6248821358
def setV (x:Nat) (v:AV) (s:St):St:=⟨VL.set x v s.vars,s.cvars,s.hp,s.nx,s.bd⟩
noncomputable def setB (b:BL) (s:St):St:=⟨s.vars,s.cvars,s.hp,s.nx,b⟩
def Dh (h:Nat):Nat->Nat->(AV->Bool)->Bool:=λi many k=>
 wi many 2 (wi i 0 (k (.nat h)) false) (wi many 5 (wi i 1 (k (.sym 1 0)) (wi i 2 (k (.sym 2 0)) (wi i 3 (k (.sym 3 0)) false))) (wi many 4 (wi i 5 (k (.sym 50 0)) (wi i 7 (k (.sym 52 0)) (wi i 9 (k (.sym 54 0)) false))) false))
def Dx:Nat->Nat->(AV->Bool)->Bool:=λi many k=>wi many 4 (k (.nat i)) false
def isSym (x:AV) (a m:Nat) (r:Bool):Bool:=asNum x (λb n=>ite (and (Nat.beq b a) (Nat.beq n m)) r false) (λU=>false) (λU U=>false) false false
def nowX:C:=λs k=>VL.get v_now s.vars λnv=>callF (FD Dx) (.cons (var v_pool) (.cons (cst (.nat 4)) .nil)) s λv s=>isNat v λi=>
 wi i 4 (isNat nv λn=>wi n 100 (k (.sym 4 0) s) false) (wi i 6 (isSym nv 4 0 (k (.sym 5 0) s)) (wi i 8 (isSym nv 5 0 (k (.sym 6 0) s)) false))
structure Pie where
 sel:Nat->Nat->Bool
 cls:Nat->Nat->List BL
 no:Nat->Bool
def allB (f:BL->Bool) (l:List BL):Bool:=List.rec true (λb U ih=>and (f b) ih) l
def isNumb (x:AV) (k:Nat->Bool):Bool:=asNum x (λb m=>wi m 1 (ite (or (Nat.beq b 50) (or (Nat.beq b 52) (Nat.beq b 54))) (k b) false) false) (λU=>false) (λU U=>false) false false
def keepN (v:Nat) (s:St) (r:Bool):Bool:=VL.get v_number s.vars λu=>isNat u λm=>wi m v r false
def altB (π:Pie) (body:S) (b:Nat) (nm:AV) (s:St) (n:St->Bool) (r:AV->St->Bool) (c:St->Bool) (v:Nat):Bool:=
 Bool.rec true (allB (λbd=>VL.get v_up s.vars λy=>cNi (.nat v) y (setB bd (setV v_number (.nat v) s)) (body (setB bd (setV v_number (.nat v) s)) (λs2=>keepN v s2 (n (setV v_number nm s2))) r c) (π.no b)) (π.cls b v)) (π.sel b v)
def B2X (π:Pie) (body:S):S:=λs n r c=>VL.get v_number s.vars λnm=>isNumb nm λb=>
 and (Bool.rec true (allB (λbd=>n (setB bd s)) (π.cls b 0)) (π.no b))
  (and (altB π body b nm s n r c 1) (and (altB π body b nm s n r c 2) (altB π body b nm s n r c 3)))
def turn3 (b:S) (n:St->Bool) (r:AV->St->Bool):St->Bool:=λs=>and (n s) (tVar v_turn (.nat 2) s λs=>b s n r n)
def turn2 (b:S) (n:St->Bool) (r:AV->St->Bool):St->Bool:=λs=>tVar v_turn (.nat 1) s λs=>b s (turn3 b n r) r (turn3 b n r)
def turn1 (b:S) (n:St->Bool) (r:AV->St->Bool):St->Bool:=λs=>tVar v_turn (.nat 0) s λs=>b s (turn2 b n r) r (turn2 b n r)
noncomputable abbrev v_script:Nat:=408345935179892
def forX (b:S):S:=λs n r U=>VL.get v_script s.vars λv=>isLoc v λp=>ite (P.eqb p (.i .h)) (turn1 b n r s) false
def isTrueV (v:AV):Bool:=AV.rec (motive:=λU=>Bool) false (λb=>b) (λU=>false) (λU=>false) (λU U=>false) (λU U=>false) false (λU=>false) false (λU U=>false) (λU U=>false) (λU U=>false) (λU U=>false) (λU=>false) false (λU U U U=>false) (λU U U U U U=>false) v
theorem VLget_of {x:Nat} {k:AV->Bool} {v:AV}:∀{l:VL},VL.find x l=some v->k v=true->VL.get x l k=true
 | .nil,h,_=>nomatch (show (none:Option AV)=some v from h)
 | .cons y u l,h,e=>by
   rw[VL.find_c] at h
   show (Bool.rec (VL.get x l k) (k u) (Nat.beq y x):Bool)=true
   cases q:Nat.beq y x with
   |true=>rw[q] at h;cases h;exact e
   |false=>rw[q] at h;exact VLget_of h e
theorem wi_cases {x y:Nat} {t f:Bool} (h:wi x y t f=true):(x=y∧t=true)∨(x≠y∧f=true):=by
 unfold wi at h
 cases q:Nat.beq x y with
 |true=>rw[q] at h;exact .inl ⟨Nat.eq_of_beq_eq_true q,h⟩
 |false=>
  rw[q] at h
  refine .inr ⟨λe=>?_,h⟩
  rw[e,Nat.beq_refl] at q;cases q
theorem isSym_true {x:AV} {a m:Nat} {r:Bool} (h:isSym x a m r=true):(x=.sym a m∨(x=.nat m∧a=0))∧r=true:=by
 cases x with
 |sym b n=>
  rcases ite_true (show ite (and (Nat.beq b a) (Nat.beq n m)) r false=true from h) with ⟨e,h⟩|⟨_,h⟩
  · rw[Bool.and_eq_true] at e
    rw[Nat.eq_of_beq_eq_true e.1,Nat.eq_of_beq_eq_true e.2]
    exact ⟨.inl rfl,h⟩
  · cases h
 |nat n=>
  rcases ite_true (show ite (and (Nat.beq 0 a) (Nat.beq n m)) r false=true from h) with ⟨e,h⟩|⟨_,h⟩
  · rw[Bool.and_eq_true] at e
    rw[Nat.eq_of_beq_eq_true e.2]
    exact ⟨.inr ⟨rfl,(Nat.eq_of_beq_eq_true e.1).symm⟩,h⟩
  · cases h
 |_=>exact fF h
def lstF (l:CL):C:=λs k=>evL l s λvs s=>k (.lst vs) s
section
variable {c:Cf} {lvl:Nat} {x:Cx}
theorem sound_lstF {es:List Expr} {l:CL} {pos:Pos} (H:SoundSp c lvl x es l) (hn:es.length≤10000):SoundE c lvl x (.List es pos) (lstF l):=by
 intro f w s σ A Q E k fo h rel rm post
 show wpAny _ A (do standAt pos;newList (← spliced (backTo pos (starEach es f.cur)))) Q E σ
 refine wpAny_bind (wpAny_standAt (wpAny_bind (H pos f w s σ A _ E _ fo h rel rm ?_)))
 intro v s1 w1 σ1 ds vs e1 rel1 X1 C1 r1 ln
 have kp:∀a o,σ1.heap.get? a=some o->(σ1.heap.push (lObj vs.toArray 0)).get? a=some o:=λa o e=>Heap.get?_push_of_some _ e
 refine wpAny_newObj_type (post (.lst v) s1 w1 _ (.lst ds) _ e1 (rel1.grow (tk:=σ1.toks) kp) (X1.trans (.grow kp)) (.lst C1) (.lst (Heap.get?_push_size _ rfl) rfl rfl ⟨rel1.freshX,by simp;omega⟩ (by simpa using r1.ext (.grow kp)) rfl)) ?_
 show vs.toArray.size≤sizeLine
 rw[List.size_toArray]
 exact Nat.le_trans (show vs.length≤10000 by omega) (by decide)
end
noncomputable def tt:Nat->Nat
 |0=>0
 |1=>1
 |2=>4
 |_=>5
noncomputable def Dlit (zs:List Int):Nat->Nat->(AV->Bool)->Bool:=λi many k=>k (.nat (drw zs i many))
theorem Dlit_ok (ρ:Rho) (zs:List Int):DOk ρ zs (Dlit zs):=λi many k h=>⟨_,.nat _,h⟩
def nowR (zs:List Int):C:=bin oAdd (var v_now) (idx (lstF (.cons (cst (.nat 0)) (.cons (cst (.nat 1)) (.cons (cst (.nat 4)) (.cons (cst (.nat 5)) .nil))))) (callF (FD (Dlit zs)) (.cons (var v_pool) (.cons (cst (.nat 4)) .nil))))
theorem drw_lt {zs:List Int} {i m:Nat} (h:0<m):drw zs i m<m:=by
 unfold drw
 split
 · exact Nat.mod_lt _ h
 · exact Nat.mod_lt _ h
structure TimesOk (ρ:Rho) (zs:List Int):Prop where
 t4:ρ.val 4=100+tt (drw zs 4 4)
 t5:ρ.val 5=ρ.val 4+tt (drw zs 6 4)
 t6:ρ.val 6=ρ.val 5+tt (drw zs 8 4)
theorem nth4 {j:Nat} (h:j<4) {k:AV->Bool} (e:k (.nat (tt j))=true):nthA (.cons (.nat 0) (.cons (.nat 1) (.cons (.nat 4) (.cons (.nat 5) .nil)))) j k=true:=by
 cases j with
 |zero=>exact e
 |succ j=>cases j with
  |zero=>exact e
  |succ j=>cases j with
   |zero=>exact e
   |succ j=>cases j with
    |zero=>exact e
    |succ j=>exact absurd h (by omega)
theorem nowR_of {zs:List Int} {s:St} {k:K AV} {nv:AV} {p:P} {i:Nat} (h1:VL.find v_now s.vars=some nv) (h2:VL.find v_pool s.vars=some (.loc p)) (hf:HT.find p s.hp=some (poolO i)) (hi:i<100)
  (h:oAdd nv (.nat (tt (drw zs i 4))) (setO p (poolO (i+1)) s) k=true):nowR zs s k=true:=by
 show VL.get v_now s.vars _=true
 refine VLget_of h1 ?_
 show VL.get v_pool s.vars _=true
 refine VLget_of h2 ?_
 show FD (Dlit zs) (.cons (.loc p) (.cons (.nat 4) .nil)) s (λx s=>item (.lst (.cons (.nat 0) (.cons (.nat 1) (.cons (.nat 4) (.cons (.nat 5) .nil))))) x s λy s=>oAdd nv y s k)=true
 refine FD_of (many:=4) hf hi (by decide) ?_
 show nthA (.cons (.nat 0) (.cons (.nat 1) (.cons (.nat 4) (.cons (.nat 5) .nil)))) (drw zs i 4) (λv=>oAdd nv v (setO p (poolO (i+1)) s) k)=true
 exact nth4 (drw_lt (by decide)) h
theorem nowX_weak {ρ:Rho} {zs:List Int} (T:TimesOk ρ zs) (s:St) (k:K AV) (h:nowX s k=true):
  nowR zs s (λv s'=>@decide (∃v',(∀d,Conc ρ v d->Conc ρ v' d)∧k v' s'=true) (Classical.propDecidable _))=true:=by
 obtain ⟨nv,h1,h⟩:=VL.get_true (show VL.get v_now s.vars _=true from h)
 obtain ⟨pv,h2,h⟩:=VL.get_true (show VL.get v_pool s.vars _=true from h)
 obtain ⟨p,i,many,e,hf,hi,hm,h⟩:=FD_true (show FD Dx (.cons pv (.cons (.nat 4) .nil)) s (λv s=>isNat v λi=>wi i 4 (isNat nv λn=>wi n 100 (k (.sym 4 0) s) false) (wi i 6 (isSym nv 4 0 (k (.sym 5 0) s)) (wi i 8 (isSym nv 5 0 (k (.sym 6 0) s)) false)))=true from h)
 injection e with e1 e2
 injection e2 with e2 _
 injection e2 with e2
 subst e1 e2
 have h:(wi i 4 (isNat nv λn=>wi n 100 (k (.sym 4 0) (setO p (poolO (i+1)) s)) false) (wi i 6 (isSym nv 4 0 (k (.sym 5 0) (setO p (poolO (i+1)) s))) (wi i 8 (isSym nv 5 0 (k (.sym 6 0) (setO p (poolO (i+1)) s))) false)))=true:=h
 refine nowR_of h1 h2 hf hi ?_
 rcases wi_cases h with ⟨rfl,h⟩|⟨_,h⟩
 · obtain ⟨n,rfl,h9⟩:=isNat_true h
   obtain ⟨rfl,h⟩:=wi_true h9
   refine @decide_eq_true _ (Classical.propDecidable _) ⟨.sym 4 0,λd C=>?_,h⟩
   cases C
   have:=Conc.sym (ρ:=ρ) 4 0
   rw[T.t4] at this
   have e:((100+tt (drw zs 4 4):Nat):Int)=(100+(tt (drw zs 4 4):Int)+((0:Nat):Int)):=by omega
   rw[show ((Nat.add 100 (tt (drw zs 4 4)):Nat):Int)=((100+tt (drw zs 4 4):Nat):Int) from rfl,e]
   exact this
 · rcases wi_cases h with ⟨rfl,h⟩|⟨_,h⟩
   · obtain ⟨e,h⟩:=isSym_true h
     rcases e with rfl|⟨_,e⟩
     · refine @decide_eq_true _ (Classical.propDecidable _) ⟨.sym 5 0,λd C=>?_,h⟩
       cases C
       have:=Conc.sym (ρ:=ρ) 5 0
       rw[T.t5] at this
       have e:(ρ.val 4+((Nat.add 0 (tt (drw zs 6 4)):Nat):Int))=(ρ.val 4+(tt (drw zs 6 4):Int)+((0:Nat):Int)):=by
        show ρ.val 4+((0+tt (drw zs 6 4):Nat):Int)=_
        omega
       rw[e]
       exact this
     · cases e
   · obtain ⟨rfl,h⟩:=wi_true h
     obtain ⟨e,h⟩:=isSym_true h
     rcases e with rfl|⟨_,e⟩
     · refine @decide_eq_true _ (Classical.propDecidable _) ⟨.sym 6 0,λd C=>?_,h⟩
       cases C
       have:=Conc.sym (ρ:=ρ) 6 0
       rw[T.t6] at this
       have e:(ρ.val 5+((Nat.add 0 (tt (drw zs 8 4)):Nat):Int))=(ρ.val 5+(tt (drw zs 8 4):Int)+((0:Nat):Int)):=by
        show ρ.val 5+((0+tt (drw zs 8 4):Nat):Int)=_
        omega
       rw[e]
       exact this
     · cases e
section
variable {c:Cf} {f:Fm} {w:Wd} {s:St} {σ:Shared}
theorem Rel.revars (R:Rel c f w s σ) {vars':VL} {bd':BL} (hb:BOk c.ρ bd') (h:∀y v,VL.find y vars'=some v->VarAt c w σ.heap (Holds f.env σ.heap) y v):Rel c f w ⟨vars',s.cvars,s.hp,s.nx,bd'⟩ σ where
 bd:=hb
 vars:=h
 cvars:=R.cvars
 ns:=R.ns
 cells:=R.cells
 cellNe:=R.cellNe
 cellInj:=R.cellInj
 comp:=R.comp
 own:=R.own
 obj:=R.obj
 inj:=R.inj
 nx:=R.nx
 base:=R.base
 dom:=R.dom
 rest:=R.rest
 pin:=R.pin
theorem Rel.reset (R:Rel c f w s σ) {x:Nat} {v v':AV} {bd':BL} (hb:BOk c.ρ bd') (h:VL.find x s.vars=some v) (hv:∀d,Conc c.ρ v d->Conc c.ρ v' d):Rel c f w (setB bd' (setV x v' s)) σ:=by
 refine R.revars hb λy u e=>?_
 have e:VL.find y (VL.set x v' s.vars)=some u:=e
 by_cases q:y=x
 · subst q
   rw[VL.find_set] at e
   cases e
   obtain ⟨n,d,rv,a,b,e1,e2,e3⟩:=R.vars _ _ h
   exact ⟨n,d,rv,a,b,hv _ e1,e2,e3⟩
 · rw[VL.find_set_ne _ _ _ q] at e
   exact R.vars y u e
end
theorem allB_mem {f:BL->Bool} {b:BL}:∀{l:List BL},b∈l->allB f l=true->f b=true
 |a::l,hm,h=>by
  have h:and (f a) (allB f l)=true:=h
  rw[Bool.and_eq_true] at h
  rcases List.mem_cons.mp hm with e|hm
  · rw[e];exact h.1
  · exact allB_mem hm h.2
theorem isNumb_true {x:AV} {k:Nat->Bool} (h:isNumb x k=true):∃b,x=.sym b 1∧(b=50∨b=52∨b=54)∧k b=true:=by
 have key:∀b m,wi m 1 (ite (or (Nat.beq b 50) (or (Nat.beq b 52) (Nat.beq b 54))) (k b) false) false=true->m=1∧(b=50∨b=52∨b=54)∧k b=true:=λb m h=>by
  obtain ⟨e,h⟩:=wi_true h
  rcases ite_true h with ⟨q,h⟩|⟨_,h⟩
  · refine ⟨e,?_,h⟩
    rw[Bool.or_eq_true,Bool.or_eq_true] at q
    rcases q with q|q|q
    · exact .inl (Nat.eq_of_beq_eq_true q)
    · exact .inr (.inl (Nat.eq_of_beq_eq_true q))
    · exact .inr (.inr (Nat.eq_of_beq_eq_true q))
  · cases h
 cases x with
 |sym b m=>obtain ⟨rfl,h1,h2⟩:=key b m h;exact ⟨b,rfl,h1,h2⟩
 |nat m=>obtain ⟨rfl,h1,h2⟩:=key 0 m h;omega
 |_=>exact fF h
def Fits (π:Pie) (ρ:Rho):Prop:=∀b,(b=50∨b=52∨b=54)->∃N:Nat,ρ.val b+1=(N:Int)∧1≤N∧N≤4∧π.sel b N=true∧(N=4->π.no b=true)∧(N<4->∃bd∈π.cls b N,BOk ρ bd)∧(π.no b=true->∃bd∈π.cls b 0,BOk ρ bd)
def B2t:T:=anT (cmp cLt (var v_number) (cst (.nat 4))) (cmp cNi (var v_number) (var v_up))
theorem VLget_eq {x:Nat} {k:AV->Bool} {v:AV}:∀{l:VL},VL.find x l=some v->VL.get x l k=k v
 | .nil,h=>nomatch (show (none:Option AV)=some v from h)
 | .cons y u l,h=>by
   rw[VL.find_c] at h
   show (Bool.rec (VL.get x l k) (k u) (Nat.beq y x):Bool)=k v
   cases q:Nat.beq y x with
   |true=>rw[q] at h;cases h;rfl
   |false=>rw[q] at h;exact VLget_eq h
theorem B2t_new {N:Nat} (hN:N<4) {s:St} {bd:BL} {y:AV} {t u:St->Bool} (hy:VL.find v_up s.vars=some y):
  B2t (setB bd (setV v_number (.nat N) s)) t u=cNi (.nat N) y (setB bd (setV v_number (.nat N) s)) (t (setB bd (setV v_number (.nat N) s))) (u (setB bd (setV v_number (.nat N) s))):=by
 have h1:VL.find v_number (VL.set v_number (.nat N) s.vars)=some (.nat N):=VL.find_set ..
 have h2:VL.find v_up (VL.set v_number (.nat N) s.vars)=some y:=(VL.find_set_ne _ _ _ (by decide) _).trans hy
 show VL.get v_number (VL.set v_number (.nat N) s.vars) (λx=>cLt x (.nat 4) (setB bd (setV v_number (.nat N) s)) (cmp cNi (var v_number) (var v_up) (setB bd (setV v_number (.nat N) s)) t u) (u (setB bd (setV v_number (.nat N) s))))=_
 rw[VLget_eq h1]
 have e:∀(a b:Bool) (st:St),cLt (.nat N) (.nat 4) st a b=a:=λa b st=>by
  show (Bool.rec (motive:=λU=>Bool) a b (Nat.ble 4 N):Bool)=a
  have:Nat.ble 4 N=false:=by
   cases q:Nat.ble 4 N with
   |false=>rfl
   |true=>exact absurd (Nat.le_of_ble_eq_true q) (by omega)
  rw[this]
 rw[e]
 show VL.get v_number (VL.set v_number (.nat N) s.vars) (λx=>VL.get v_up (VL.set v_number (.nat N) s.vars) λy=>cNi x y (setB bd (setV v_number (.nat N) s)) (t (setB bd (setV v_number (.nat N) s))) (u (setB bd (setV v_number (.nat N) s))))=_
 rw[VLget_eq h1,VLget_eq h2]
theorem B2t_no {s:St} {bd:BL} {t u:St->Bool}:B2t (setB bd (setV v_number (.nat 4) s)) t u=u (setB bd (setV v_number (.nat 4) s)):=by
 have h1:VL.find v_number (VL.set v_number (.nat 4) s.vars)=some (.nat 4):=VL.find_set ..
 show VL.get v_number (VL.set v_number (.nat 4) s.vars) (λx=>cLt x (.nat 4) (setB bd (setV v_number (.nat 4) s)) (cmp cNi (var v_number) (var v_up) (setB bd (setV v_number (.nat 4) s)) t u) (u (setB bd (setV v_number (.nat 4) s))))=_
 rw[VLget_eq h1]
 rfl
section
variable {c:Cf} {lvl:Nat} {x:Cx}
theorem sound_B2X {t:Expr} {b:List Stmt} {body:S} {π:Pie} {pos:Pos} (Ft:Fits π c.ρ) (H:SoundT c lvl x t B2t) (L:SoundS c lvl x b body):SoundX c lvl x (.If t b [] pos) (B2X π body):=by
 intro f w s σ A Q E n r k fo h rel rm pn pr pk
 obtain ⟨nm,hnm,h⟩:=VL.get_true (show VL.get v_number s.vars _=true from h)
 obtain ⟨bb,rfl,hbb,h⟩:=isNumb_true h
 rw[Bool.and_eq_true,Bool.and_eq_true,Bool.and_eq_true] at h
 obtain ⟨h0,h1,h2,h3⟩:=h
 obtain ⟨N,eN,N1,N4,hsel,hno,hcl,hcl0⟩:=Ft bb hbb
 have toN:∀d,Conc c.ρ (.sym bb 1) d->Conc c.ρ (.nat N) d:=λd C=>by
  cases C
  rw[show (c.ρ.val bb+((1:Nat):Int))=(N:Int) from eN]
  exact .nat N
 have ofN:∀d,Conc c.ρ (.nat N) d->Conc c.ρ (.sym bb 1) d:=λd C=>by
  cases C
  have:=Conc.sym (ρ:=c.ρ) bb 1
  rw[show (c.ρ.val bb+((1:Nat):Int))=(N:Int) from eN] at this
  exact this
 have go:∀(bd:BL),BOk c.ρ bd->∀(X:Bool),(X=true->N<4∧body (setB bd (setV v_number (.nat N) s)) (λs2=>keepN N s2 (n (setV v_number (.sym bb 1) s2))) r k=true)->
   B2t (setB bd (setV v_number (.nat N) s)) (λs'=>@decide (s'=setB bd (setV v_number (.nat N) s)∧X=true) (Classical.propDecidable _)) (λs'=>@decide (s'=setB bd (setV v_number (.nat N) s)∧π.no bb=true) (Classical.propDecidable _))=true->
   wpAny (model c.prog c.wo) A (exec (.If t b [] pos) f.cur) Q E σ:=by
  intro bd hb X hX ht
  have relN:Rel c f w (setB bd (setV v_number (.nat N) s)) σ:=rel.reset hb hnm toN
  show wpAny _ A (do standAt pos;if ←isTrue t f.cur (eval t f.cur) then execs b f.cur else execs [] f.cur) Q E σ
  refine wpAny_bind (wpAny_standAt (wpAny_bind (H f w _ σ A _ E _ _ fo ht relN rm ?_ ?_)))
  · intro s1 w1 σ1 e1 rel1 X1
    obtain ⟨rfl,hx⟩:=@of_decide_eq_true _ (Classical.propDecidable _) e1
    refine L f w1 _ σ1 A Q E _ r k fo (hX hx).2 rel1 rm ?_ (pr.ext X1) (pk.ext X1)
    intro s2 w2 σ2 e2 rel2 X2
    obtain ⟨u,hu,e2⟩:=VL.get_true (show VL.get v_number s2.vars (λu=>isNat u λm=>wi m N (n (setV v_number (.sym bb 1) s2)) false)=true from e2)
    obtain ⟨m,rfl,e3⟩:=isNat_true e2
    obtain ⟨rfl,e4⟩:=wi_true e3
    exact pn _ w2 σ2 e4 (rel2.reset (bd':=s2.bd) rel2.bd hu ofN) (X1.trans X2)
  · intro s1 w1 σ1 e1 rel1 X1
    obtain ⟨rfl,hx⟩:=@of_decide_eq_true _ (Classical.propDecidable _) e1
    obtain ⟨bd0,hm,hb0⟩:=hcl0 hx
    rw[hx] at h0
    have h0:=allB_mem hm (show allB (λbd=>n (setB bd s)) (π.cls bb 0)=true from h0)
    refine wpAny_pure (pn (setB bd0 s) w1 σ1 h0 (rel1.revars hb0 λy v e=>?_) X1)
    by_cases q:y=v_number
    · subst q
      rw[hnm] at e
      cases e
      obtain ⟨n',d,rv,a,b,e1,e2,e3⟩:=rel1.vars v_number (.nat N) (VL.find_set ..)
      exact ⟨n',d,rv,a,b,ofN _ e1,e2,e3⟩
    · exact rel1.vars y v ((VL.find_set_ne _ _ _ q _).trans e)
 by_cases q4:N=4
 · subst q4
   obtain ⟨bd0,hm,hb0⟩:=hcl0 (hno rfl)
   refine go bd0 hb0 false (λz=>nomatch z) ?_
   rw[B2t_no]
   exact @decide_eq_true _ (Classical.propDecidable _) ⟨rfl,hno rfl⟩
 · have alt:altB π body bb (.sym bb 1) s n r k N=true:=by
    have:N=1∨N=2∨N=3:=by omega
    rcases this with rfl|rfl|rfl
    · exact h1
    · exact h2
    · exact h3
   obtain ⟨bd,hm,hb⟩:=hcl (by omega)
   unfold altB at alt
   rw[hsel] at alt
   have alt:=allB_mem hm alt
   obtain ⟨y,hy,alt⟩:=VL.get_true alt
   refine go bd hb (body (setB bd (setV v_number (.nat N) s)) (λs2=>keepN N s2 (n (setV v_number (.sym bb 1) s2))) r k) (λz=>⟨by omega,z⟩) ?_
   rw[B2t_new (by omega) hy]
   have e1:(@decide (setB bd (setV v_number (.nat N) s)=setB bd (setV v_number (.nat N) s)∧body (setB bd (setV v_number (.nat N) s)) (λs2=>keepN N s2 (n (setV v_number (.sym bb 1) s2))) r k=true) (Classical.propDecidable _))=body (setB bd (setV v_number (.nat N) s)) (λs2=>keepN N s2 (n (setV v_number (.sym bb 1) s2))) r k:=by
    cases q:body (setB bd (setV v_number (.nat N) s)) (λs2=>keepN N s2 (n (setV v_number (.sym bb 1) s2))) r k with
    |true=>exact @decide_eq_true _ (Classical.propDecidable _) ⟨rfl,rfl⟩
    |false=>exact @decide_eq_false _ (Classical.propDecidable _) (λz=>nomatch z.2)
   have e2:(@decide (setB bd (setV v_number (.nat N) s)=setB bd (setV v_number (.nat N) s)∧π.no bb=true) (Classical.propDecidable _))=π.no bb:=by
    cases q:π.no bb with
    |true=>exact @decide_eq_true _ (Classical.propDecidable _) ⟨rfl,rfl⟩
    |false=>exact @decide_eq_false _ (Classical.propDecidable _) (λz=>nomatch z.2)
   rw[e1,e2]
   exact alt
end
def stg (b:S) (n:St->Bool) (r:AV->St->Bool):Nat->St->Bool
 |0=>turn1 b n r
 |1=>turn2 b n r
 |2=>turn3 b n r
 |_=>n
theorem upN_step {cnt i:Nat} (h:i<cnt):upN (cnt-i) i=.cons (.nat i) (upN (cnt-(i+1)) (i+1)):=by
 obtain ⟨k,hk⟩:∃k,cnt-i=k+1:=⟨cnt-i-1,by omega⟩
 have:cnt-(i+1)=k:=by omega
 rw[hk,this]
 rfl
section
variable {c:Cf} {lvl:Nat} {x:Cx}
set_option tactic.hygienic true in
theorem sound_forX {t e:Expr} {b:List Stmt} {I:I} {B:S} {pos:Pos} {cnt:Nat} (hc:cnt=2∨cnt=3) (H:SoundI c lvl x e I) (hI:∀s (k:It->St->Bool),VL.find v_script s.vars=some (.loc (.i .h))->k (.fz (upN cnt 0)) s=true->I s k=true)
  (K:SoundA c lvl x t (tVar v_turn)) (L:SoundS c lvl x b B):SoundX c lvl x (.For t e b [] pos) (forX B):=by
 intro f w s σ A Q E n r k fo h rel rm pn pr pk
 obtain ⟨v,hv,h⟩:=VL.get_true (show VL.get v_script s.vars (λv=>isLoc v λp=>ite (P.eqb p (.i .h)) (turn1 B n r s) false)=true from h)
 obtain ⟨p,rfl,h9⟩:=isLoc_true h
 rcases ite_true h9 with ⟨e9,h8⟩|⟨_,h8⟩
 case inr=>cases h8
 have:=eqbP_true e9
 subst this
 have h0:I s (λJ s'=>@decide (J=.fz (upN cnt 0)∧s'=s) (Classical.propDecidable _))=true:=hI s _ hv (@decide_eq_true _ (Classical.propDecidable _) ⟨rfl,rfl⟩)
 refine wpAny_For (H.2 f w s σ A _ E _ fo h0 rel rm ?_) λv=>noSet_folded H.1
 intro J it s1 w1 σ1 e1 rel1 X1 I1 hX hW hn0
 obtain ⟨rfl,rfl⟩:=@of_decide_eq_true _ (Classical.propDecidable _) e1
 refine codeAny_forLoop_any (λj σ'=>∃i s' w',j+i=4∧i≤cnt∧stg B n r i s'=true∧Rel c f w' s' σ'∧Ext w σ.heap w' σ'.heap∧ItAt c w' σ'.heap it (.fz (upN (cnt-i) i))∧w'.X it∧¬w'.W it) ?_ 4 ⟨0,s1,w1,rfl,by omega,h8,rel1,X1,I1,hX,hW⟩
 intro j σ2 h9;obtain ⟨i,s2,w2,hj,hi,e2,rel2,X2,I2,hX,hW⟩:=h9
 have e3:nxt (.fz (upN (cnt-i) i)) s2 (λh J=>@decide (J=.fz (upN (cnt-(i+1)) (i+1))∧i<cnt∧tVar v_turn h s2 (λs=>B s (stg B n r (i+1)) r (stg B n r (i+1)))=true) (Classical.propDecidable _)) (n s2)=true:=by
  by_cases q:i<cnt
  · rw[upN_step q]
    refine @decide_eq_true _ (Classical.propDecidable _) ⟨rfl,q,?_⟩
    have:i=0∨i=1∨i=2:=by omega
    rcases this with rfl|rfl|rfl
    · exact e2
    · exact e2
    · have e2:and (n s2) (tVar v_turn (.nat 2) s2 λs=>B s n r n)=true:=e2
      rw[Bool.and_eq_true] at e2
      exact e2.2
  · have:cnt-i=0:=by omega
    rw[this]
    show n s2=true
    have:i=2∨i=3:=by omega
    rcases this with rfl|rfl
    · have e2:and (n s2) (tVar v_turn (.nat 2) s2 λs=>B s n r n)=true:=e2
      rw[Bool.and_eq_true] at e2
      exact e2.1
    · exact e2
 refine next_true rel2 I2 hX hW rm.handled e3 ?_ ?_
 · intro v J' dv rv h' tk ev sb alive I3 C3 r3
   obtain ⟨rfl,hlt,ev2⟩:=@of_decide_eq_true _ (Classical.propDecidable _) ev
   obtain ⟨rel3,ER⟩:=rel2.side (tk:=tk) hX hW sb alive
   have X3:=X2.side hn0 sb
   dsimp only
   refine ItAt.go (σ:={σ2 with heap:=h',toks:=tk}) I3 ?_
   refine K f w2 s2 {σ2 with heap:=h',toks:=tk} A _ _ _ v dv rv fo ev2 rel3 rm C3 r3 ?_
   intro s4 w4 σ4 e4 rel4 X4
   have next:∀(s5:St) (w5:Wd) (σ5:Shared),stg B n r (i+1) s5=true->Rel c f w5 s5 σ5->Ext w4 σ4.heap w5 σ5.heap->∃m,m<j∧∃i s' w',m+i=4∧i≤cnt∧stg B n r i s'=true∧Rel c f w' s' σ5∧Ext w σ.heap w' σ5.heap∧ItAt c w' σ5.heap it (.fz (upN (cnt-i) i))∧w'.X it∧¬w'.W it:=by
    intro s5 w5 σ5 e5 rel5 X5
    have X45:=X4.trans X5
    obtain ⟨oi,hoi⟩:=alive
    obtain ⟨g,hX5,hW5⟩:=X45.shielded hoi hX hW
    exact ⟨j-1,by omega,i+1,s5,w5,by omega,hlt,e5,rel5,X3.trans X45,I3.ext X45.r (g.trans hoi.symm),hX5,hW5⟩
   refine L f w4 s4 σ4 A _ _ _ _ _ fo e4 rel4 rm ?_ ?_ ?_
   · exact λs5 w5 σ5 e5 rel5 X5=>next s5 w5 σ5 e5 rel5 X5
   · exact λv s5 w5 σ5 d rv e5 rel5 X5 C5 r5=>pr v s5 w5 σ5 d rv e5 rel5 (X3.trans (X4.trans X5)) C5 r5
   · exact λs5 w5 σ5 e5 rel5 X5=>next s5 w5 σ5 e5 rel5 X5
 · intro en h' eb
   obtain ⟨rel3,ER⟩:=rel2.gone (tk:=σ2.toks) hX hW eb
   exact wpAny_pure (pn s2 _ _ en rel3 (X2.gone hW hn0 rel.dom eb))
end
def L1 (h:Nat):S:=(asg (tTup (.cons (tVar 1548057666931) (.cons (tVar 1526583227507) .nil))) (tupE (.cons (lstE (.cons (cst (.nat 0)) (.cons (cst (.nat 1)) (.cons (callF (FD (Dh h)) (.cons (var 6181318508) (.cons (cst (.nat 2)) .nil))) .nil)))) (.cons (lc (bin oAdd (cst (.nat 1)) (callF (FD (Dh h)) (.cons (var 6181318508) (.cons (cst (.nat 5)) .nil)))) (tCvar 6248821358) (itR (cst (.nat 0)) (cst (.nat 3))) yes) .nil))))
def L2:S:=(asg (tTup (.cons (tVar 407298014209394) (.cons (tVar 24014711) (.cons (tVar 95600) (.cons (tVar 1595201708901) .nil))))) (tupE (.cons (callF F219 (.cons (var 1548057666931) (.cons (var 1526583227507) .nil))) (.cons (cst (.nat 100)) (.cons (lstE .nil) (.cons (dctE .nil) .nil))))))
def L3:S:=(asg (tVar 5946437483) (dctE (.cons (cst (.nat 0)) (tupE (.cons (cst .none) (.cons (lstE .nil) .nil))) (.cons (cst (.nat 1)) (tupE (.cons (cst .none) (.cons (lstE .nil) .nil))) .nil))))
noncomputable def L5:S:=(retS (cst (.bool true)))
def B1 (h:Nat):S:=(asg (tTup (.cons (tVar 402925602104690) (.cons (tAttr 24014711 (var 407298014209394)) .nil))) (tupE (.cons (bin oAdd (cst (.nat 1)) (callF (FD (Dh h)) (.cons (var 6181318508) (.cons (cst (.nat 4)) .nil)))) (.cons (var 24014711) .nil))))
def B2b:S:=(sq (exS (meth 25469086698980860773 (.cons 9 F187 .nil) (var 407298014209394) (.cons (meth 1552200852325 (.cons 9 F154 .nil) (var 407298014209394) (.cons (var 402925602104690) .nil)) (.cons (cst (.str 95600)) .nil)))) (exS (mApp (var 95600) (var 402925602104690))))
def B3:S:=(exS (meth 26833973167469456492 (.cons 9 F217 .nil) (var 407298014209394) .nil))
def B4:S:=(forS (tVar 5929854305) (itE (tupE (.cons (cst (.nat 0)) (.cons (cst (.nat 1)) .nil)))) (sq (asg (tVar 1565136938355) (lc (cvar 24079973) (tCvar 24079973) (itE (tupE (.cons (cst (.nat 1)) (.cons (cst (.nat 2)) (.cons (cst (.nat 3)) .nil))))) (anT (cmp cIn (cvar 24079973) (var 95600)) (cmp cEq (idx (var 1548057666931) (bin oSub (cvar 24079973) (cst (.nat 1)))) (var 5929854305))))) (sq (asg (tTup (.cons (tVar 6298297710) (.cons (tVar 1535121843570) .nil))) (idx (var 5946437483) (var 5929854305))) (sq (ifS (orT (isN (var 6298297710)) (anT (cmp cNe (var 1565136938355) (var 1535121843570)) (cmp cGe (var 24014711) (bin oAdd (var 6298297710) (cst (.nat 5)))))) (asg (tIdx (var 5946437483) (var 5929854305)) (tupE (.cons (var 24014711) (.cons (var 1565136938355) .nil)))) skip) (forS (tVar 24079973) (itE (idx (idx (var 5946437483) (var 5929854305)) (cst (.nat 1)))) (exS (mSetd (var 1595201708901) (tupE (.cons (bin oSub (cst (.nat 1)) (var 5929854305)) (.cons (var 24079973) .nil))) (var 24014711))))))))
def B5:S:=(ifS (noT (tstT (callF F220 (.cons (var 407298014209394) (.cons (var 5946437483) (.cons (var 1595201708901) (.cons (var 1526583227507) (.cons (var 24014711) .nil)))))))) (retS (cst (.bool false))) skip)
def loopB (π:Pie) (h:Nat):S:=sq (asg (tVar v_now) nowX) (sq (B1 h) (sq (B2X π B2b) (sq B3 (sq B4 B5))))
def lawX (π:Pie) (h:Nat):S:=sq (L1 h) (sq L2 (sq L3 (sq (forX (loopB π h)) L5)))
noncomputable def bd0 (l:BL):BL:=.cons 1 0 0 4 (.cons 2 0 0 4 (.cons 3 0 0 4 l))
noncomputable def bd1:BL:=bd0 (.cons 4 0 100 105 .nil)
noncomputable def bd2 (p q:Nat):BL:=bd0 (.cons 4 0 100 105 (.cons 5 0 100 110 (.cons 5 4 p q .nil)))
noncomputable def bd3 (p q a b a' b':Nat):BL:=bd0 (.cons 4 0 100 105 (.cons 5 0 100 110 (.cons 6 0 100 115 (.cons 5 4 p q (.cons 6 4 a b (.cons 6 5 a' b' .nil))))))
def st0:St:=⟨.cons v_script (.loc (.i .h)) (.cons v_pool (.loc .h) .nil),.nil,HT.put .h (poolO 0) .lf,.o (.o .h),bd0 .nil⟩
def runX (π:Pie) (h:Nat):Bool:=lawX π h st0 (λU=>false) (λv U=>isTrueV v) (λU=>false)
def selT (a b c:Nat->Bool) (t:Nat):Nat->Bool:=Bool.rec (Bool.rec c b (Nat.beq t 52)) a (Nat.beq t 50)
def noT' (a b c:Bool) (t:Nat):Bool:=Bool.rec (Bool.rec c b (Nat.beq t 52)) a (Nat.beq t 50)
def clT (b c:Nat->List BL) (t v:Nat):List BL:=Bool.rec (Bool.rec (c v) (b v) (Nat.beq t 52)) [bd1] (Nat.beq t 50)
noncomputable def one (a:Nat):Nat->Bool:=λv=>Nat.beq v a
noncomputable def any4:Nat->Bool:=λU=>true
noncomputable def two (a b:Nat):Nat->Bool:=λv=>or (Nat.beq v a) (Nat.beq v b)
noncomputable def fo4 (a b c d:List BL):Nat->List BL:=λv=>Nat.rec a (λv U=>Nat.rec b (λv U=>Nat.rec c (λU U=>d) v) v) v
section
variable {c:Cf}
theorem fa218 (B:Base c):FnAt c 1623 (fdA 218 "_law_draw" "_law_draw" 1622 .none .none (.str "law_rh0220_01" 2610)) (fnA 218).2.1 ["pool","many"] []:=fnAt_of' B (by kernel_rfl) (by kernel_rfl) (by decide +kernel) (by decide +kernel) (.inl ⟨rfl,rfl⟩) (by decide)
theorem gAbs (B:Base c):GlobV c "abs" (.builtin "abs"):=B.builtin (k:=sc "abs") rfl rfl (by kernel_rfl) (by decide) (by kernel_rfl)
theorem t218 (B:Base c) (ha:c.att=attL) (zs:List Int) (Pn:PinL c qz (litL zs)):Draw zs=fnD (.cons v_pool (.cons v_many .nil)) .nil ((mkD (tb0 B ha) (gAbs B) Pn 40).S ⟨(fnA 218).2.2,none⟩ (fnA 218).2.1).1:=by kernel_rfl
theorem sf218 (B:Base c) (ha:c.att=attL) (zs:List Int) (Pn:PinL c qz (litL zs)):SoundFn c 1 1623 (Draw zs):=by
 rw[t218 B ha zs Pn]
 exact sound_fn (fa218 B) (ps_of (ps:=(.cons v_pool (.cons v_many .nil))) (by decide +kernel)) ds_nil ((mkD (tb0 B ha) (gAbs B) Pn 40).S ⟨(fnA 218).2.2,none⟩ (fnA 218).2.1).2
theorem sfD (B:Base c) (ha:c.att=attL) (zs:List Int) (Pn:PinL c qz (litL zs)) (hz:zs.length≤16) {D:Nat->Nat->(AV->Bool)->Bool} (hD:DOk c.ρ zs D):SoundFn c 9 1623 (FD D):=
 (sound_FD (sf218 B ha zs Pn) hz hD).up (by decide)
def tbD (B:Base c) (ha:c.att=attL) (D:Nat->Nat->(AV->Bool)->Bool) (S:SoundFn c 9 1623 (FD D)):Tab c 9:=
 mkTab B ha 9 (B.eF "_law_draw" (sc "_law_draw") 1623 (FD D) rfl rfl (by kernel_rfl) (by kernel_rfl) S::fns9 B ha) (kls9 B ha) (ms9 B ha)
end
noncomputable def exT (e:Stmt):Expr:=by
 cases e with
 |For t=>exact t
 |If t=>exact t
 |Assign t=>exact t.headD default
 |_=>exact default
noncomputable def exE (e:Stmt):Expr:=by
 cases e with
 |For _ e=>exact e
 |Assign _ e=>exact e
 |_=>exact default
noncomputable def exB (e:Stmt):List Stmt:=by
 cases e with
 |For _ _ b=>exact b
 |If _ b=>exact b
 |_=>exact []
noncomputable def exP (e:Stmt):Pos:=by
 cases e with
 |For _ _ _ _ p=>exact p
 |If _ _ _ p=>exact p
 |Assign _ _ p=>exact p
 |_=>exact default
noncomputable def laB:List Stmt:=(fnA 221).2.1
noncomputable def xL:Cx:=⟨(fnA 221).2.2,none⟩
noncomputable def nthS (l:List Stmt) (i:Nat):Stmt:=(l[i]?).getD default
noncomputable def la (i:Nat):Stmt:=nthS laB i
noncomputable def lo (i:Nat):Stmt:=nthS (exB (la 4)) i
theorem laB_eq:laB=[la 0,la 1,la 2,la 3,la 4,la 5]:=by kernel_rfl
theorem la4_eq:la 4=.For (exT (la 4)) (exE (la 4)) (exB (la 4)) [] (exP (la 4)):=by kernel_rfl
theorem lo_eq:exB (la 4)=[lo 0,lo 1,lo 2,lo 3,lo 4,lo 5]:=by kernel_rfl
theorem lo2_eq:lo 2=.If (exT (lo 2)) (exB (lo 2)) [] (exP (lo 2)):=by kernel_rfl
theorem lo0_eq:lo 0=.Assign [exT (lo 0)] (exE (lo 0)) (exP (lo 0)):=by kernel_rfl
noncomputable def beL (e:Expr):Expr:=by
 cases e with
 |BinOp l=>exact l
 |Subscript v=>exact v
 |_=>exact default
noncomputable def beR:Expr->Expr| .BinOp _ _ r _=>r| .Subscript _ s _=>s|_=>default
noncomputable def beP (e:Expr):Pos:=by
 cases e with
 |BinOp _ _ _ p=>exact p
 |Subscript _ _ p=>exact p
 |List _ p=>exact p
 |_=>exact default
noncomputable def beS (e:Expr):List Expr:=onList e (λU=>[]) λes U=>es
theorem nowE_eq:exE (lo 0)=.BinOp (beL (exE (lo 0))) .Add (.Subscript (.List (beS (beL (beR (exE (lo 0))))) (beP (beL (beR (exE (lo 0)))))) (beR (beR (exE (lo 0)))) (beP (beR (exE (lo 0))))) (beP (exE (lo 0))):=by kernel_rfl
section
variable {c:Cf}
theorem sX (tb:Tab c 9) {st:Stmt} {a:S} (h:a=(orBad (stX tb (mk tb 40) xL st)).1):SoundX c 9 xL st a:=by
 rw[h];exact (orBad (stX tb (mk tb 40) xL st)).2
theorem sE (tb:Tab c 9) {e:Expr} {a:C} (h:a=(orBadE ((mk tb 40).E xL e)).1):SoundE c 9 xL e a:=by
 rw[h];exact (orBadE ((mk tb 40).E xL e)).2
theorem sT (tb:Tab c 9) {e:Expr} {a:T} (h:a=(orBadT ((mk tb 40).T xL e)).1):SoundT c 9 xL e a:=by
 rw[h];exact (orBadT ((mk tb 40).T xL e)).2
theorem sS (tb:Tab c 9) {ss:List Stmt} {a:S} (h:a=((mk tb 40).S xL ss).1):SoundS c 9 xL ss a:=by
 rw[h];exact ((mk tb 40).S xL ss).2
section
variable (B:Base c) (ha:c.att=attL)
include B ha
theorem sL1 (h:Nat) (S:SoundFn c 9 1623 (FD (Dh h))):SoundX c 9 xL (la 1) (L1 h):=sX (tbD B ha (Dh h) S) (by kernel_rfl)
theorem sL2:SoundX c 9 xL (la 2) L2:=sX (tb9 B ha) (by kernel_rfl)
theorem qL3:∀st,st=la 3->L3=(orBad (stX (tb9 B ha) (mk (tb9 B ha) 40) xL st)).1:=λst e=>by subst e;kernel_rfl
theorem sL3:∀st,st=la 3->SoundX c 9 xL st L3:=λst e=>sX (tb9 B ha) (qL3 B ha st e)
theorem sL5:SoundX c 9 xL (la 5) L5:=sX (tb9 B ha) (by kernel_rfl)
theorem sB1 (h:Nat) (S:SoundFn c 9 1623 (FD (Dh h))):SoundX c 9 xL (lo 1) (B1 h):=sX (tbD B ha (Dh h) S) (by kernel_rfl)
theorem sB2t:SoundT c 9 xL (exT (lo 2)) B2t:=sT (tb9 B ha) (by kernel_rfl)
theorem sB2b:SoundS c 9 xL (exB (lo 2)) B2b:=sS (tb9 B ha) (by kernel_rfl)
theorem sB3:SoundX c 9 xL (lo 3) B3:=sX (tb9 B ha) (by kernel_rfl)
theorem sB4:SoundX c 9 xL (lo 4) B4:=sX (tb9 B ha) (by kernel_rfl)
theorem sB5:SoundX c 9 xL (lo 5) B5:=sX (tb9 B ha) (by kernel_rfl)
theorem sB0 (zs:List Int) (S0:SoundFn c 9 1623 (FD (Dlit zs))) (T:TimesOk c.ρ zs):SoundX c 9 xL (lo 0) (asg (tVar v_now) nowX):=by
 have e1:SoundE c 9 xL (beL (exE (lo 0))) (var v_now):=sE (tb9 B ha) (by kernel_rfl)
 have e2:SoundE c 9 xL (beR (beR (exE (lo 0)))) (callF (FD (Dlit zs)) (.cons (var v_pool) (.cons (cst (.nat 4)) .nil))):=sE (tbD B ha (Dlit zs) S0) (by kernel_rfl)
 have hl:(listC (mk (tb9 B ha) 40) xL (beS (beL (beR (exE (lo 0)))))).isSome=true:=by kernel_rfl
 have e3:SoundSp c 9 xL (beS (beL (beR (exE (lo 0))))) (.cons (cst (.nat 0)) (.cons (cst (.nat 1)) (.cons (cst (.nat 4)) (.cons (cst (.nat 5)) .nil)))):=by
  have e:(CL.cons (cst (.nat 0)) (.cons (cst (.nat 1)) (.cons (cst (.nat 4)) (.cons (cst (.nat 5)) .nil))))=((listC (mk (tb9 B ha) 40) xL (beS (beL (beR (exE (lo 0)))))).get hl).1:=by kernel_rfl
  rw[e]
  exact ((listC (mk (tb9 B ha) 40) xL (beS (beL (beR (exE (lo 0)))))).get hl).2.1
 have e4:SoundE c 9 xL (exE (lo 0)) (nowR zs):=by
  rw[nowE_eq]
  exact sound_bin soundB_add e1 (sound_idx (sound_lstF e3 (by decide)) e2 (by kernel_rfl))
 have e5:SoundE c 9 xL (exE (lo 0)) nowX:=e4.weak (nowX_weak T)
 have e6:SoundA c 9 xL (exT (lo 0)) (tVar v_now):=by
  have e:tVar v_now=((stepA (tb9 B ha) (mk (tb9 B ha) 40) xL (exT (lo 0))).get (by kernel_rfl)).1:=by kernel_rfl
  rw[e]
  exact ((stepA (tb9 B ha) (mk (tb9 B ha) 40) xL (exT (lo 0))).get (by kernel_rfl)).2
 rw[lo0_eq]
 exact sound_asgT rfl (by kernel_rfl) (by kernel_rfl) e6 e5 (by kernel_rfl)
end
end
noncomputable abbrev qs:P:=.i .h
def rngL (ns:List Int):I:=itR (cst (.nat 0)) (iteC (cmp cLt (b1 bLen (unpin qs (litL ns) (var v_script))) (cst (.nat 9))) (cst (.nat 2)) (cst (.nat 3)))
noncomputable def cntL (ns:List Int):Nat:=if ns.length<9 then 2 else 3
theorem rngL_of {ns:List Int} (hn:ns.length<64) {s:St} {k:It->St->Bool} (h:VL.find v_script s.vars=some (.loc (.i .h))) (e:k (.fz (upN (cntL ns) 0)) s=true):rngL ns s k=true:=by
 show VL.get v_script s.vars _=true
 refine VLget_of h ?_
 show ok4 (lenA (litL ns)) _=true
 rw[litL_len]
 have h4:Nat.ble ns.length 10000=true:=Nat.ble_eq_true_of_le (by omega)
 unfold ok4
 rw[h4]
 show (Bool.rec (motive:=λU=>Bool) _ _ (Nat.ble 9 ns.length):Bool)=true
 unfold cntL at e
 by_cases q:ns.length<9
 · rw[if_pos q] at e
   have:Nat.ble 9 ns.length=false:=by
    cases z:Nat.ble 9 ns.length with
    |false=>rfl
    |true=>exact absurd (Nat.le_of_ble_eq_true z) (by omega)
   rw[this]
   exact e
 · rw[if_neg q] at e
   rw[Nat.ble_eq_true_of_le (by omega)]
   exact e
section
variable {c:Cf}
def stepER {lvl:Nat} (tb:Tab c lvl) {q:P} {L:AV} (Pn:PinL c q L) (m:Mk c lvl) (x:Cx):∀e,RE c lvl x e
 | .Name n p=>if h:n="script" then (stepE tb m x (.Name n p)).bind λa=>some ⟨unpin q L a.1,sound_unpin Pn a.2⟩ else stepE tb m x _
 |e=>stepE tb m x e
def mkR {lvl:Nat} (tb:Tab c lvl) {q:P} {L:AV} (Pn:PinL c q L) (n:Nat):Mk c lvl:=
 Nat.rec (motive:=λU=>Mk c lvl) ⟨λU U=>none,λU U=>none,λU U=>none,λU U=>none,λU U=>⟨badS,sound_badS⟩⟩ (λU m=>⟨stepER tb Pn m,stepT tb m,stepA tb m,stepI tb m,stepS tb m⟩) n
variable (B:Base c) (ha:c.att=attL)
include B ha
theorem sRng_eq (ns:List Int) (Pn:PinL c qs (litL ns)):∃h,rngL ns=(((mkR (tb9 B ha) Pn 40).I xL (exE (la 4))).get h).1:=⟨by kernel_rfl,by kernel_rfl⟩
theorem sRng (ns:List Int) (Pn:PinL c qs (litL ns)):SoundI c 9 xL (exE (la 4)) (rngL ns):=by
 obtain ⟨h,e⟩:=sRng_eq B ha ns Pn
 rw[e]
 exact (((mkR (tb9 B ha) Pn 40).I xL (exE (la 4))).get h).2
theorem sTurn_eq:∃h,tVar v_turn=((stepA (tb9 B ha) (mk (tb9 B ha) 40) xL (exT (la 4))).get h).1:=⟨by kernel_rfl,by kernel_rfl⟩
theorem sTurn:SoundA c 9 xL (exT (la 4)) (tVar v_turn):=by
 obtain ⟨h,e⟩:=sTurn_eq B ha
 rw[e]
 exact ((stepA (tb9 B ha) (mk (tb9 B ha) 40) xL (exT (la 4))).get h).2
theorem sLaw {π:Pie} {h:Nat} {zs ns:List Int} (Ft:Fits π c.ρ) (Pz:PinL c qz (litL zs)) (Ps:PinL c qs (litL ns)) (hz:zs.length≤16) (hn:ns.length<64) (hD:DOk c.ρ zs (Dh h)) (T:TimesOk c.ρ zs)
  (s1 s2 s3 s4 s5:Stmt) (e1:s1=la 1) (e2:s2=la 2) (e3:s3=la 3) (e4:s4=la 4) (e5:s5=la 5):SoundS c 9 xL [s1,s2,s3,s4,s5] (lawX π h):=by
 have S:=sfD B ha zs Pz hz hD
 have S0:=sfD B ha zs Pz hz (Dlit_ok c.ρ zs)
 have b2:SoundX c 9 xL (lo 2) (B2X π B2b):=by
  rw[lo2_eq]
  exact sound_B2X Ft (sB2t B ha) (sB2b B ha)
 have lb:SoundS c 9 xL (exB (la 4)) (loopB π h):=by
  rw[lo_eq]
  exact sound_sq (sB0 B ha zs S0 T) (sound_sq (sB1 B ha h S) (sound_sq b2 (sound_sq (sB3 B ha) (sound_sq (sB4 B ha) (sound_one (sB5 B ha))))))
 have l4:SoundX c 9 xL s4 (forX (loopB π h)):=by
  rw[e4,la4_eq]
  exact sound_forX (cnt:=cntL ns) (by unfold cntL;split<;>simp) (sRng B ha ns Ps) (λs k=>rngL_of hn) (sTurn B ha) lb
 have l1:SoundX c 9 xL s1 (L1 h):=by rw[e1];exact sL1 B ha h S
 have l2:SoundX c 9 xL s2 L2:=by rw[e2];exact sL2 B ha
 have l3:SoundX c 9 xL s3 L3:=sL3 B ha s3 e3
 have l5:SoundX c 9 xL s5 L5:=by rw[e5];exact sL5 B ha
 exact sound_sq l1 (sound_sq l2 (sound_sq l3 (sound_sq l4 (sound_one l5))))
end
noncomputable def vaN (zs:List Int) (i:Nat):Nat:=
 if i=1 then drw zs 1 5 else if i=2 then drw zs 2 5 else if i=3 then drw zs 3 5 else
 if i=4 then 100+tt (drw zs 4 4) else if i=5 then 100+tt (drw zs 4 4)+tt (drw zs 6 4) else if i=6 then 100+tt (drw zs 4 4)+tt (drw zs 6 4)+tt (drw zs 8 4) else
 if i=50 then drw zs 5 4 else if i=52 then drw zs 7 4 else if i=54 then drw zs 9 4 else 0
noncomputable def rhoL (zs:List Int):Rho:=⟨λi=>(vaN zs i:Int),rfl⟩
theorem rhoL_times (zs:List Int):TimesOk (rhoL zs) zs:=by
 refine ⟨?_,?_,?_⟩
 · show ((100+tt (drw zs 4 4):Nat):Int)=_
   omega
 · show ((100+tt (drw zs 4 4)+tt (drw zs 6 4):Nat):Int)=((100+tt (drw zs 4 4):Nat):Int)+_
   omega
 · show ((100+tt (drw zs 4 4)+tt (drw zs 6 4)+tt (drw zs 8 4):Nat):Int)=((100+tt (drw zs 4 4)+tt (drw zs 6 4):Nat):Int)+_
   omega
theorem sym0 {ρ:Rho} {a n:Nat} (h:ρ.val a=(n:Int)):Conc ρ (.sym a 0) (.int (n:Nat)):=by
 have:=Conc.sym (ρ:=ρ) a 0
 rw[h] at this
 exact (show ((n:Int)+((0:Nat):Int))=(n:Int) by omega)▸this
theorem Dh_ok (zs:List Int):DOk (rhoL zs) zs (Dh (drw zs 0 2)):=by
 intro i many k h
 rcases wi_cases h with ⟨e,h1⟩|⟨_,h1⟩
 · obtain ⟨e2,h2⟩:=wi_true h1
   subst e e2
   exact ⟨_,.nat _,h2⟩
 · rcases wi_cases h1 with ⟨e,h2⟩|⟨_,h2⟩
   · rcases wi_cases h2 with ⟨e2,h3⟩|⟨_,h3⟩
     · subst e e2;exact ⟨_,sym0 rfl,h3⟩
     · rcases wi_cases h3 with ⟨e2,h4⟩|⟨_,h4⟩
       · subst e e2;exact ⟨_,sym0 rfl,h4⟩
       · obtain ⟨e2,h5⟩:=wi_true h4
         subst e e2;exact ⟨_,sym0 rfl,h5⟩
   · obtain ⟨e,h3⟩:=wi_true h2
     rcases wi_cases h3 with ⟨e2,h4⟩|⟨_,h4⟩
     · subst e e2;exact ⟨_,sym0 rfl,h4⟩
     · rcases wi_cases h4 with ⟨e2,h5⟩|⟨_,h5⟩
       · subst e e2;exact ⟨_,sym0 rfl,h5⟩
       · obtain ⟨e2,h6⟩:=wi_true h5
         subst e e2;exact ⟨_,sym0 rfl,h6⟩
def okBL (v:Nat->Nat) (bd:BL):Bool:=BL.rec (motive:=λU=>Bool) true (λa b lo hi U ih=>and (or (and (Nat.beq b 0) (and (Nat.ble 1 a) (and (Nat.ble a 3) (and (Nat.beq lo 0) (Nat.beq hi 4))))) (and (Nat.ble (lo+v b) (v a)) (Nat.ble (v a) (hi+v b)))) ih) bd
def vT (x y z:Nat) (i:Nat):Nat:=Bool.rec (Bool.rec (Bool.rec 0 (100+tt x+tt y+tt z) (Nat.beq i 6)) (100+tt x+tt y) (Nat.beq i 5)) (100+tt x) (Nat.beq i 4)
def anyL {α:Type} (f:α->Bool) (l:List α):Bool:=List.rec false (λb U ih=>or (f b) ih) l
noncomputable def al (n:Nat) (f:Nat->Bool):Bool:=Nat.rec true (λi ih=>and ih (f i)) n
theorem al_lt {f:Nat->Bool}:∀{n i:Nat},al n f=true->i<n->f i=true
 |n+1,i,h,q=>by
  have h:and (al n f) (f n)=true:=h
  rw[Bool.and_eq_true] at h
  rcases Nat.lt_or_eq_of_le (Nat.le_of_lt_succ q) with q|q
  · exact al_lt h.1 q
  · rw[q];exact h.2
theorem anyL_of {α:Type} {f:α->Bool}:∀{l:List α},anyL f l=true->∃x∈l,f x=true
 |a::l,h=>by
  have h:or (f a) (anyL f l)=true:=h
  rw[Bool.or_eq_true] at h
  rcases h with h|h
  · exact ⟨a,by simp,h⟩
  · obtain ⟨x,hx,e⟩:=anyL_of h
    exact ⟨x,by simp[hx],e⟩
def timeBL (bd:BL):Bool:=BL.rec (motive:=λU=>Bool) true (λa b lo hi U ih=>and (or (and (Nat.beq b 0) (and (Nat.ble 1 a) (and (Nat.ble a 3) (and (Nat.beq lo 0) (Nat.beq hi 4))))) (and (or (Nat.beq a 4) (or (Nat.beq a 5) (Nat.beq a 6))) (or (Nat.beq b 0) (or (Nat.beq b 4) (or (Nat.beq b 5) (Nat.beq b 6)))))) ih) bd
theorem okBL_ok {zs:List Int}:∀{bd:BL},timeBL bd=true->okBL (vT (drw zs 4 4) (drw zs 6 4) (drw zs 8 4)) bd=true->BOk (rhoL zs) bd
 | .nil,_,_=>trivial
 | .cons a b lo hi l,h1,h2=>by
   have h1:and (or (and (Nat.beq b 0) (and (Nat.ble 1 a) (and (Nat.ble a 3) (and (Nat.beq lo 0) (Nat.beq hi 4))))) (and (or (Nat.beq a 4) (or (Nat.beq a 5) (Nat.beq a 6))) (or (Nat.beq b 0) (or (Nat.beq b 4) (or (Nat.beq b 5) (Nat.beq b 6)))))) (timeBL l)=true:=h1
   have h2:and (or (and (Nat.beq b 0) (and (Nat.ble 1 a) (and (Nat.ble a 3) (and (Nat.beq lo 0) (Nat.beq hi 4))))) (and (Nat.ble (lo+vT (drw zs 4 4) (drw zs 6 4) (drw zs 8 4) b) (vT (drw zs 4 4) (drw zs 6 4) (drw zs 8 4) a)) (Nat.ble (vT (drw zs 4 4) (drw zs 6 4) (drw zs 8 4) a) (hi+vT (drw zs 4 4) (drw zs 6 4) (drw zs 8 4) b)))) (okBL (vT (drw zs 4 4) (drw zs 6 4) (drw zs 8 4)) l)=true:=h2
   simp only[Bool.and_eq_true,Bool.or_eq_true,Nat.beq_eq,Nat.ble_eq] at h1 h2
   refine ⟨?_,okBL_ok h1.2 h2.2⟩
   show (lo:Int)≤(vaN zs a:Int)-(vaN zs b:Int)∧(vaN zs a:Int)-(vaN zs b:Int)≤(hi:Int)
   have cost:(b=0∧1≤a∧a≤3∧lo=0∧hi=4)->((lo:Int)≤(vaN zs a:Int)-(vaN zs b:Int)∧(vaN zs a:Int)-(vaN zs b:Int)≤(hi:Int)):=by
    intro h9;obtain ⟨rfl,g1,g2,rfl,rfl⟩:=h9
    have:vaN zs a<5:=by
     have:a=1∨a=2∨a=3:=by omega
     rcases this with rfl|rfl|rfl<;>exact drw_lt (by decide)
    have e0:vaN zs 0=0:=rfl
    rw[e0]
    omega
   rcases h1.1 with g|g
   · exact cost g
   rcases h2.1 with g'|g'
   · exact cost g'
   have ea:vT (drw zs 4 4) (drw zs 6 4) (drw zs 8 4) a=vaN zs a:=by
    rcases g.1 with rfl|rfl|rfl<;>rfl
   have eb:vT (drw zs 4 4) (drw zs 6 4) (drw zs 8 4) b=vaN zs b:=by
    rcases g.2 with rfl|rfl|rfl|rfl<;>rfl
   rw[ea,eb] at g'
   omega
def okT (v:Nat->Nat) (bd:BL):Bool:=and (timeBL bd) (okBL v bd)
def fitB (π:Pie) (v:Nat->Nat) (b d:Nat):Bool:=
 and (π.sel b (d+1)) (and (or (Nat.ble d 2) (π.no b)) (and (or (Nat.ble 3 d) (anyL (okT v) (π.cls b (d+1)))) (or (not (π.no b)) (anyL (okT v) (π.cls b 0)))))
theorem fitB_ok {π:Pie} {zs:List Int} {b d:Nat} (hd:d<4) (hv:(rhoL zs).val b=(d:Int)) (h:fitB π (vT (drw zs 4 4) (drw zs 6 4) (drw zs 8 4)) b d=true):
  ∃N:Nat,(rhoL zs).val b+1=(N:Int)∧1≤N∧N≤4∧π.sel b N=true∧(N=4->π.no b=true)∧(N<4->∃bd∈π.cls b N,BOk (rhoL zs) bd)∧(π.no b=true->∃bd∈π.cls b 0,BOk (rhoL zs) bd):=by
 have key:∀l:List BL,anyL (okT (vT (drw zs 4 4) (drw zs 6 4) (drw zs 8 4))) l=true->∃bd∈l,BOk (rhoL zs) bd:=λl h=>by
  obtain ⟨bd,hm,e⟩:=anyL_of h
  have e:and (timeBL bd) (okBL (vT (drw zs 4 4) (drw zs 6 4) (drw zs 8 4)) bd)=true:=e
  rw[Bool.and_eq_true] at e
  exact ⟨bd,hm,okBL_ok e.1 e.2⟩
 unfold fitB at h
 simp only[Bool.and_eq_true,Bool.or_eq_true,Nat.ble_eq] at h
 obtain ⟨h1,h2,h3,h4⟩:=h
 refine ⟨d+1,by omega,by omega,by omega,h1,λe=>?_,λe=>?_,λe=>?_⟩
 · rcases h2 with h|h
   · omega
   · exact h
 · rcases h3 with h|h
   · omega
   · exact key _ h
 · rcases h4 with h|h
   · rw[e] at h;cases h
   · exact key _ h
def cvF (π:Pie) (d5 d7 d6 d4 d8:Nat):Bool:=and (fitB π (vT d4 d6 d8) 50 d5) (and (fitB π (vT d4 d6 d8) 52 d7) (al 4 (fitB π (vT d4 d6 d8) 54)))
def cvE (π:Pie) (d5 d7 d6 d4:Nat):Bool:=al 4 (cvF π d5 d7 d6 d4)
def cvD (h d5 d7 d6:Nat) (p:Nat×Pie):Bool:=and (Nat.beq p.1 h) (al 4 (cvE p.2 d5 d7 d6))
def cvC (l:List (Nat×Pie)) (h d5 d7 d6:Nat):Bool:=anyL (cvD h d5 d7 d6) l
def cvB (l:List (Nat×Pie)) (h d5 d7:Nat):Bool:=al 4 (cvC l h d5 d7)
def cvA (l:List (Nat×Pie)) (h d5:Nat):Bool:=al 4 (cvB l h d5)
def cv0 (l:List (Nat×Pie)) (h:Nat):Bool:=al 4 (cvA l h)
def coverB (l:List (Nat×Pie)):Bool:=al 2 (cv0 l)
theorem cover_of {l:List (Nat×Pie)} (H:coverB l=true) (R:∀p∈l,runX p.2 p.1=true) (zs:List Int):∃π,runX π (drw zs 0 2)=true∧Fits π (rhoL zs):=by
 have q:∀i,drw zs i 4<4:=λi=>drw_lt (by decide)
 have q0:drw zs 0 2<2:=drw_lt (by decide)
 have h0:cv0 l (drw zs 0 2)=true:=al_lt H q0
 have h1:cvA l (drw zs 0 2) (drw zs 5 4)=true:=al_lt h0 (q 5)
 have h2:cvB l (drw zs 0 2) (drw zs 5 4) (drw zs 7 4)=true:=al_lt h1 (q 7)
 have h3:cvC l (drw zs 0 2) (drw zs 5 4) (drw zs 7 4) (drw zs 6 4)=true:=al_lt h2 (q 6)
 obtain ⟨p,hp,e⟩:=anyL_of h3
 have e:and (Nat.beq p.1 (drw zs 0 2)) (al 4 (cvE p.2 (drw zs 5 4) (drw zs 7 4) (drw zs 6 4)))=true:=e
 rw[Bool.and_eq_true] at e
 have e1:=Nat.eq_of_beq_eq_true e.1
 have e2:cvE p.2 (drw zs 5 4) (drw zs 7 4) (drw zs 6 4) (drw zs 4 4)=true:=al_lt e.2 (q 4)
 have e3:cvF p.2 (drw zs 5 4) (drw zs 7 4) (drw zs 6 4) (drw zs 4 4) (drw zs 8 4)=true:=al_lt e2 (q 8)
 unfold cvF at e3
 rw[Bool.and_eq_true,Bool.and_eq_true] at e3
 have e4:=al_lt e3.2.2 (q 9)
 refine ⟨p.2,e1▸R p hp,λb hb=>?_⟩
 rcases hb with rfl|rfl|rfl
 · exact fitB_ok (q 5) rfl e3.1
 · exact fitB_ok (q 7) rfl e3.2.1
 · exact fitB_ok (q 9) rfl e4
noncomputable abbrev v_cell:Nat:=5962558572
def L0:S:=(asg (tVar v_pool) (lstE (.cons (lc (b1 bInt (cvar v_cell)) (tCvar v_cell) (itE (cutTo (var v_script) (cst (.nat 16)))) yes) (.cons (cst (.nat 0)) .nil))))
theorem lcL_lit:∀(zs:List Int) (m:Nat) (s:St) (k:K AV),zs.length<m->(∀cv,k (litL zs) ⟨s.vars,cv,s.hp,s.nx,s.bd⟩=true)->lcL (tCvar v_cell) yes (b1 bInt (cvar v_cell)) m (.fz (litL zs)) s k=true
 |[],m+1,s,k,_,h=>h s.cvars
 |z::zs,m+1,s,k,hm,h=>by
  show VL.get v_cell (VL.set v_cell (litA z) s.cvars) (λv=>bInt v ⟨s.vars,VL.set v_cell (litA z) s.cvars,s.hp,s.nx,s.bd⟩ λv s=>lcL (tCvar v_cell) yes (b1 bInt (cvar v_cell)) m (.fz (litL zs)) s λvs s=>k (.cons v vs) s)=true
  refine VLget_of (VL.find_set ..) ?_
  have e:∀(s:St) (K:K AV),K (litA z) s=true->bInt (litA z) s K=true:=λs K h=>by cases z<;>exact h
  refine e _ _ ?_
  exact lcL_lit zs m _ _ (by simpa using hm) λcv=>h cv
theorem takeA_lit:∀(zs:List Int) (n:Nat),takeA (litL zs) n=litL (zs.take n)
 |[],n=>by rw[List.take_nil];rfl
 |z::zs,0=>rfl
 |z::zs,n+1=>by
  show AV.cons (litA z) (takeA (litL zs) n)=AV.cons (litA z) (litL (zs.take n))
  rw[takeA_lit zs n]
def stP (s:St) (zs:List Int):St:=⟨VL.set v_pool (.loc s.nx) s.vars,.nil,HT.put s.nx (.list (.cons (.lst (litL zs)) (.cons (.nat 0) .nil))) s.hp,P.succ s.nx,s.bd⟩
theorem L0_of {ns:List Int} {s:St} {n:St->Bool} {r:AV->St->Bool} {t:St->Bool} (h:VL.find v_script s.vars=some (.lst (litL ns))) (e:n (stP s (ns.take 16))=true):L0 s n r t=true:=by
 have e1:∀K:K AV,lcL (tCvar v_cell) yes (b1 bInt (cvar v_cell)) 100 (.fz (litL (ns.take 16))) (noC s) (λvs s=>K (.lst vs) (noC s))=true->cutTo (var v_script) (cst (.nat 16)) s (λx s=>iterOf x s λit=>lcL (tCvar v_cell) yes (b1 bInt (cvar v_cell)) 100 it (noC s) (λvs s=>K (.lst vs) (noC s)))=true:=by
  intro K hK
  unfold cutTo cut var
  dsimp only
  rw[VLget_eq h]
  show lcL (tCvar v_cell) yes (b1 bInt (cvar v_cell)) 100 (.fz (takeA (litL ns) 16)) (noC s) (λvs s=>K (.lst vs) (noC s))=true
  rw[takeA_lit]
  exact hK
 refine e1 (λv s=>newO (.list (.cons v (.cons (.nat 0) .nil))) s λv s=>tVar v_pool v s n) ?_
 exact lcL_lit _ _ _ _ (by rw[List.length_take];omega) λcv=>e
section
variable {c:Cf} (B:Base c) (ha:c.att=attL)
include B ha
theorem sL0 (st:Stmt) (e:st=la 0):SoundX c 9 xL st L0:=by
 subst e;exact sX (tb9 B ha) (by kernel_rfl)
omit ha in
theorem fa221:FnAt c 1640 (fdA 221 "law" "law" 1639 .none .none (.str "law_rh0220_01" 2610)) laB ["script"] []:=fnAt_of' B (by kernel_rfl) (by kernel_rfl) (by decide +kernel) (by decide +kernel) (.inl ⟨rfl,rfl⟩) (by decide)
end
theorem litA_det {ρ:Rho} {z:Int} {d:CD} (h:Conc ρ (litA z) d):d=.int z:=by
 cases z with
 |ofNat n=>cases h;rfl
 |negSucc n=>cases h;rfl
theorem litL_det {ρ:Rho}:∀{zs:List Int} {ds:List CD},ConcL ρ (litL zs) ds->ds=zs.map CD.int
 |[],ds,h=>by cases h;rfl
 |z::zs,ds,h=>by
  cases h with
  |cons a b=>rw[litA_det a,litL_det b];rfl
theorem ints_any {Pm:Params} {w w':Wd} {h h':Heap}:∀{zs:List Int} {vs:List Value},RdL Pm w h (zs.map CD.int) vs->RdL Pm w' h' (zs.map CD.int) vs
 |[],vs,r=>by cases r;exact .nil
 |z::zs,vs,r=>by
  cases r with
  |cons a b=>cases a;exact .cons (.int _ _) (ints_any b)
theorem ints_of {Pm:Params} {w:Wd} {h:Heap} {vs:List Value} {ns:List Int} (r:IntsAre vs ns):RdL Pm w h (ns.map CD.int) vs:=by
 induction r with
 |nil=>exact .nil
 |cons n t _ ih=>exact .cons (.int n t) ih
def frX (w:Wd) (h:Heap):List Addr:=(List.range h.objs.size).filter λa=>@decide (w.X a) (Classical.propDecidable _)
theorem less_X {w:Wd} {h:Heap} {a:Addr} {o:Obj} (hd:∀a,w.X a->∃o,h.get? a=some o) (e:(less h (frX w h)).get? a=some o):h.get? a=some o∧¬w.X a:=by
 refine ⟨of_less e,λq=>?_⟩
 obtain ⟨o',ho⟩:=hd a q
 have:a∈frX w h:=List.mem_filter.mpr ⟨List.mem_range.mpr (Heap.lt_size ho),@decide_eq_true _ (Classical.propDecidable _) q⟩
 rw[less_none this] at e
 cases e
theorem less_keep {w:Wd} {h:Heap} {a:Addr} {o:Obj} (e:h.get? a=some o) (n:¬w.X a):(less h (frX w h)).get? a=some o:=
 less_get e λm=>n (@of_decide_eq_true _ (Classical.propDecidable _) (List.mem_filter.mp m).2)
noncomputable def eta2 (pb al x:Addr) (p:P):Option (Addr×Addr):=by
 cases p with
 |h=>exact some (pb,pb)
 |o p=>cases p with
  |h=>exact some (al,al)
  |_=>exact none
 |i p=>cases p with
  |h=>exact some (x,x)
  |_=>exact none
noncomputable def pin2 (al x:Addr) (p:P):Option Addr:=by
 cases p with
 |h=>exact none
 |o p=>cases p with
  |h=>exact some al
  |_=>exact none
 |i p=>cases p with
  |h=>exact some x
  |_=>exact none
theorem pin2_eta {pb al x a:Addr} {p:P} (h:pin2 al x p=some a):eta2 pb al x p=some (a,a):=by
 cases p with
 |h=>cases h
 |o p=>cases p with
  |h=>cases h;rfl
  |_=>cases h
 |i p=>cases p with
  |h=>cases h;rfl
  |_=>cases h
theorem eta2_nx {pb al x:Addr} {p:P} {y:Addr×Addr} (h:eta2 pb al x p=some y):p.toNat<3:=by
 cases p with
 |h=>decide
 |o p=>cases p with
  |h=>decide
  |_=>cases h
 |i p=>cases p with
  |h=>decide
  |_=>cases h
theorem pin2_nx {al x a:Addr} {p:P} (h:pin2 al x p=some a):p.toNat<3:=eta2_nx (pb:=0) (pin2_eta h)
def c1 (c:Cf) (w:Wd) (h:Heap) (zs:List Int) (al x:Addr):Cf:=⟨c.prog,c.wo,less h (frX w h),c.σ₀,rhoL zs,c.cls,c.K,c.att,pin2 al x⟩
noncomputable def stA (ns:List Int):St:=⟨.cons v_script (.lst (litL ns)) .nil,.nil,.lf,.h,.nil⟩
section
variable {c:Cf} (B:Base c) (ha:c.att=attL)
include B ha
theorem law_tail {g:Fm} {w:Wd} {σ:Shared} {ns:List Int} {π:Pie} {A:Around} {Q:Flow->Shared->Prop} {E:Value->Shared->Prop} (fo:FrOK xL g) (R:Rel c g w (stP (stA ns) (ns.take 16)) σ) (hn:ns.length<64) (rm:Room A 9)
  (run:runX π (drw (ns.take 16) 0 2)=true) (Ft:Fits π (rhoL (ns.take 16))) (post:∀σ',(∀a o,c.base.get? a=some o->σ'.heap.get? a=some o)->(∃h tk,σ'={c.σ₀ with heap:=h,toks:=tk})->Q (.ret (.bool true)) σ')
  (l:List Stmt) (hl:l=[la 1,la 2,la 3,la 4,la 5]):wpAny (model c.prog c.wo) A (execs l g.cur) Q E σ:=by
 obtain ⟨n1,d1,rv1,a1,b1',C1,r1,H1⟩:=R.vars v_script (.lst (litL ns)) rfl
 cases C1 with
 |lst C1=>
 rw[litL_det C1] at r1
 cases r1 with
 |@lst x ox vx nx _ hx hxc hxd hxX hxr hxn=>
 obtain ⟨n2,d2,rv2,a2,b2',C2,r2,H2⟩:=R.vars v_pool (.loc .h) rfl
 cases C2
 cases r2 with
 |@loc _ pa pb' hpe=>
 obtain ⟨a',pb,he,hW,hO,ds,vs,nn,hab,hg,hC,hr,hs⟩:=R.obj .h (.list (.cons (.lst (litL (ns.take 16))) (.cons (.nat 0) .nil))) rfl
 have epb:Value.ref pa=Value.ref pb:=by
  rw[he] at hpe
  injection hpe with hpe
  injection hpe with z1 _
  rw[← z1,hab]
 rw[epb] at H2
 clear hpe he hab
 cases hC with
 |cons hC1 hC2=>
 cases hC2 with
 |cons hC2 hC3=>
 cases hC1 with
 |lst hC1=>
 rw[litL_det hC1] at hr
 generalize hvl:vs.toList=vl at hr
 cases hr with
 |@cons _ _ v1 vl1 q1 q2=>
 cases q1 with
 |@lst al oa va na _ ga gc gd gX gr gn=>
 have hdom:∀a,w.X a->∃o,σ.heap.get? a=some o:=R.dom
 have keep1:∀a o,c.base.get? a=some o->(less σ.heap (frX w σ.heap)).get? a=some o:=λa o e=>less_keep (R.base a o e).1 (R.base a o e).2
 let zs:List Int:=ns.take 16
 let d:Cf:=c1 c w σ.heap zs al x
 have B1:Base d:={
  K:=B.K
  kin:=λa o e=>keep1 a o (B.kin a o e)
  cls:=B.cls
  bn:=by obtain ⟨mb,h1,h2⟩:=B.bn;exact ⟨mb,h1.keeps keep1,h2⟩
  lim:=B.lim.keeps keep1
  pin:=λp a e=>pin2_nx e}
 have Pz:PinL d qz (litL zs):=⟨al,oa,va,na,zs.map CD.int,rfl,less_keep ga gX.1,⟨gc,gd,gn⟩,gX.2,ints_any gr,litL_conc _ zs⟩
 have Ps:PinL d qs (litL ns):=⟨x,ox,vx,nx,ns.map CD.int,rfl,less_keep hx hxX.1,⟨hxc,hxd,hxn⟩,hxX.2,ints_any hxr,litL_conc _ ns⟩
 let w2:Wd:=⟨eta2 pb al x,w.X,w.W,w.sub⟩
 have R1:Rel d g w2 st0 σ:={
  bd:=okBL_ok (bd:=bd0 .nil) rfl rfl
  vars:=λy v e=>by
   have e:VL.find y (.cons v_script (.loc (.i .h)) (.cons v_pool (.loc .h) .nil))=some v:=e
   rw[VL.find_c] at e
   cases q:Nat.beq v_script y with
   |true=>
    rw[q] at e
    cases e
    exact ⟨n1,.loc (.i .h),.ref x,a1.trans (Nat.eq_of_beq_eq_true q),b1',.loc _,.loc (b:=x) rfl,H1⟩
   |false=>
    rw[q] at e
    rw[VL.find_c] at e
    cases q2:Nat.beq v_pool y with
    |true=>
     rw[q2] at e
     cases e
     exact ⟨n2,.loc .h,.ref pb,a2.trans (Nat.eq_of_beq_eq_true q2),b2',.loc _,.loc (b:=pb) rfl,H2⟩
    |false=>rw[q2] at e;cases e
  cvars:=λy v e=>nomatch (show (none:Option AV)=some v from e)
  ns:=R.ns
  cells:=R.cells
  cellNe:=R.cellNe
  cellInj:=R.cellInj
  comp:=R.comp
  own:=R.own
  obj:=λp o e=>by
   have e:HT.find p (HT.put .h (poolO 0) .lf)=some o:=e
   by_cases q:p=.h
   · subst q
     rw[HT.find_put] at e
     cases e
     refine ⟨_,pb,rfl,hW,hO,[.loc qz,.int 0],vs,nn,rfl,hg,.cons (.loc _) (.cons (.nat 0) .nil),?_,hs⟩
     rw[hvl]
     cases hC2
     cases hC3
     cases q2 with
     |cons q3 q4=>
     cases q3
     cases q4
     exact .cons (.loc (b:=al) rfl) (.cons (.int _ _) .nil)
   · rw[HT.find_put_ne _ _ _ _ q,HT.find_lf] at e
     cases e
  inj:=λp q o o' a a' b e e' U U=>by
   have z:∀(p:P) (o:AObj),HT.find p st0.hp=some o->p=.h:=λp o e=>by
    have e:HT.find p (HT.put .h (poolO 0) .lf)=some o:=e
    by_cases q:p=.h
    · exact q
    · rw[HT.find_put_ne _ _ _ _ q,HT.find_lf] at e;cases e
   rw[z p o e,z q o' e']
  nx:=λp y e=>eta2_nx e
  base:=λa o e=>less_X hdom e
  dom:=R.dom
  rest:=R.rest
  pin:=λp a e=>pin2_eta e}
 have L:=sLaw (c:=d) B1 ha Ft Pz Ps (by show (ns.take 16).length≤16;rw[List.length_take];omega) hn (Dh_ok zs) (rhoL_times zs) _ _ _ _ _ rfl rfl rfl rfl rfl
 rw[hl]
 refine L g w2 st0 σ A Q E (λU=>false) (λv U=>isTrueV v) (λU=>false) fo run R1 rm ?_ ?_ ?_
 · intro s' w' σ' e
   cases e
 · intro v s' w' σ' dv rv e R' X' C' r'
   have:v=.bool true:=by
    cases v with
    |bool b=>cases b with
     |true=>rfl
     |false=>exact fF e
    |_=>exact fF e
   subst this
   cases C'
   cases r'
   exact post σ' (λa o e=>(R'.base a o (keep1 a o e)).1) R'.rest
 · intro s' w' σ' e
   cases e
end
section
variable {c:Cf} (B:Base c) (ha:c.att=attL)
include B ha
omit B ha in
theorem Rel.first {g:Fm} {σ:Shared} {h':Heap} {tk:Nat} {ns:List Int} {rv:Value} (hp:∀p,c.pin p=none) (hσ:σ.heap=c.base) (rest:∃h tk,σ={c.σ₀ with heap:=h,toks:=tk}) (hg:g.comp=none) (k:∀a o,σ.heap.get? a=some o->h'.get? a=some o)
  (fresh:∀a,g.Own a->σ.heap.get? a=none) (r:Rd c.wo.params w0 c.base (.lst (ns.map CD.int)) rv) (hH:Holds g.env h' "script" rv) (hns:∃m,h'.Ns g.env.locals m) (hc:∀x∈g.env.cells,∃v,h'.IsCell x.2 v)
  (hne:∀x∈g.env.cells,x.2≠g.env.locals) (hi:∀x∈g.env.cells,∀y∈g.env.cells,x.2=y.2->x.1=y.1):
  Rel c g ⟨λU=>none,g.Own,g.Own,λU q=>q⟩ (stA ns) {σ with heap:=h',toks:=tk}:=by
 have kb:∀a o,c.base.get? a=some o->h'.get? a=some o∧¬g.Own a:=λa o e=>by
  rw[← hσ] at e
  exact ⟨k a o e,λq=>by rw[fresh a q] at e;cases e⟩
 have ER:ExtR w0 c.base ⟨λU=>none,g.Own,g.Own,λU q=>q⟩ h':=⟨λU U e=>(nomatch (show (none:Option (Addr×Addr))=some _ from e)),λa o e U=>(kb a o e).1,λa o e q=>absurd q (kb a o e).2⟩
 exact {
  bd:=trivial
  vars:=λy v e=>by
   have e:VL.find y (.cons v_script (.lst (litL ns)) .nil)=some v:=e
   rw[VL.find_c] at e
   cases q:Nat.beq v_script y with
   |true=>
    rw[q] at e
    cases e
    refine ⟨"script",.lst (ns.map CD.int),rv,(show sc "script"=v_script by decide +kernel).trans (Nat.eq_of_beq_eq_true q),by decide +kernel,.lst (litL_conc _ ns),r.extR ER,hH⟩
   |false=>rw[q] at e;cases e
  cvars:=λy v e=>nomatch (show (none:Option AV)=some v from e)
  ns:=hns
  cells:=hc
  cellNe:=hne
  cellInj:=hi
  comp:=λs c a e=>by rw[hg] at e;cases e
  own:=λa h=>h
  obj:=λp o e=>by
   have e:HT.find p .lf=some o:=e
   rw[HT.find_lf] at e;cases e
  inj:=λp q o o' a a' b e U U U=>by
   have e:HT.find p .lf=some o:=e
   rw[HT.find_lf] at e;cases e
  nx:=λp x e=>nomatch (show (none:Option (Addr×Addr))=some x from e)
  base:=kb
  dom:=λa h=>by
   rcases h with h|⟨x,hx,h⟩|⟨s,cl,h⟩
   · obtain ⟨m,o,_,_,e,_⟩:=hns;exact ⟨o,h▸e⟩
   · obtain ⟨v,o,e,_⟩:=hc x hx;exact ⟨o,h▸e⟩
   · rw[hg] at h;cases h
  rest:=by obtain ⟨h,tk',e⟩:=rest;exact ⟨h',tk,by rw[e]⟩
  pin:=λp a e=>by rw[hp] at e;cases e}
theorem law_run {σ:Shared} {ns:List Int} {rv:Value} {A:Around} {Rs:Result->Shared->Prop} (hp:∀p,c.pin p=none) (hσ:σ.heap=c.base) (rest:∃h tk,σ={c.σ₀ with heap:=h,toks:=tk}) (r:Rd c.wo.params w0 c.base (.lst (ns.map CD.int)) rv)
  (hn:ns.length<64) (rm:Room A 10) (cov:∃π,runX π (drw (ns.take 16) 0 2)=true∧Fits π (rhoL (ns.take 16)))
  (post:∀σ',(∀a o,c.base.get? a=some o->σ'.heap.get? a=some o)->(∃h tk,σ'={c.σ₀ with heap:=h,toks:=tk})->Rs (.ok (.ret (.bool true))) σ'):codeAny (model c.prog c.wo) A (.call (.ref 1640) ⟨[rv],[]⟩) Rs σ:=by
 have H:=fa221 B
 generalize hfd:fdA 221 "law" "law" 1639 .none .none (.str "law_rh0220_01" 2610)=fd at H
 obtain ⟨o,ho,hdat⟩:=H.at_
 have toH:∀a o,c.base.get? a=some o->σ.heap.get? a=some o:=λa o e=>by rw[hσ];exact e
 have sc:=H.scope
 unfold plainScope at sc
 simp only[Bool.and_eq_true,Bool.not_eq_true',decide_eq_true_eq,List.all_eq_true,Bool.or_eq_true,beq_iff_eq] at sc
 obtain ⟨⟨⟨⟨s1,s2⟩,s3⟩,s4⟩,s5⟩:=sc
 have hdf:Dflt σ.heap fd []:=by
  rcases H.dflt with e|⟨T,o,n,e,ho,hd⟩
  · exact .inl e
  · exact .inr ⟨T,o,n,e,toH _ _ ho,hd⟩
 refine codeAny_call_function (by have:=rm.depth;omega) (toH _ _ ho) hdat s2 s3 H.body (H.code.keeps toH) ?_
 refine bind_plain H.plain hdf (by simp) (by simp) (by simp) ?_
 rw[H.clo]
 refine wpAny_newFunctionEnv_cells s1 (λx hx=>?_) λenv he s' x=>?_
 · have:x.1∈(["script"]:List Str):=(List.of_mem_zip hx).1
   rcases s4 x.1 this with q|q
   · exact .inl q
   · exact .inr ⟨q,cellsFrom_has (.inl (PySem.mem_of_lookup q))⟩
 have e1:env.cells=cellsFrom (σ.heap.objs.size+1) fd.scope.names []:=by rw[he];rfl
 have e2:env.scope=fd.scope:=by rw[he];rfl
 have e3:env.globals=mainGlobals:=by rw[he];exact H.gl
 have e4:env.builtins=builtinsNs:=by rw[he];exact H.bi
 obtain ⟨h',tk,rfl,kp⟩:=x.done
 have hnd:(env.cells.map (·.1)).Nodup:=by
  rw[e1]
  have:∀(names:List (Str×NameKind)) (k k':Nat) (acc acc':List (Str×Addr)),acc.map (·.1)=acc'.map (·.1)->(cellsFrom k names acc).map (·.1)=(cellsFrom k' names acc').map (·.1):=by
   intro names
   induction names with
   |nil=>intro k k' acc acc' e;exact e
   |cons y r ih=>
    intro k k' acc acc' e
    obtain ⟨m,kd⟩:=y
    unfold cellsFrom
    split
    · exact ih _ _ _ _ (by simp[e])
    · exact ih _ _ _ _ e
  rw[this fd.scope.names _ 0 [] [] rfl]
  exact s5
 let g:Fm:=⟨env,none⟩
 have above:∀y∈env.cells,env.locals<y.2:=λy hy=>x.above y.1 y.2 hy
 have frL:σ.heap.objs.size≤env.locals:=x.toInCall.fresh
 have fresh:∀a,g.Own a->σ.heap.get? a=none:=λa ha=>by
  have ge:σ.heap.objs.size≤a:=by
   rcases ha with q|⟨y,hy,q⟩|⟨_,_,q⟩
   · rw[q];exact frL
   · rw[← q];exact Nat.le_of_lt (Nat.lt_of_le_of_lt frL (above y hy))
   · cases q
  cases e:σ.heap.get? a with
  |none=>rfl
  |some o=>exact absurd (Heap.lt_size e) (Nat.not_lt.mpr ge)
 have kind:∀n kd,fd.scope.names.lookup n=some kd->env.kindOf n=some kd:=λn kd e=>by unfold Env.kindOf;rw[e2];exact e
 have hH:Holds env h' "script" rv:=by
  have hm:(("script":Str),rv)∈(["script"]:List Str).zip ([rv]++([]:List Value).drop ([rv].length+([]:List Value).length-(["script"]:List Str).length)):=by simp
  rcases s4 "script" (by simp) with q|q
  · have kq:=kind "script" _ q
    exact .inl ⟨kq,_,x.toInCall.ns,bindL_mem kq (by simp) hm⟩
  · have kq:=kind "script" _ q
    obtain ⟨a',ha'⟩:=Option.isSome_iff_exists.mp (cellsFrom_has (k:=σ.heap.objs.size+1) (acc:=[]) (.inl (PySem.mem_of_lookup q)))
    rw[← e1] at ha'
    refine .inr ⟨kq,a',ha',?_⟩
    have:=x.cell "script" a' ha'
    rw[bindC_mem (by rw[kq];decide) (by simp) hm] at this
    exact this
 have rel':=Rel.first (g:=g) (tk:=tk) hp hσ rest rfl kp fresh r hH ⟨_,x.toInCall.ns⟩ (λy hy=>⟨_,x.cell y.1 y.2 (lookup_nodup hnd hy)⟩) (λy hy e=>Nat.lt_irrefl _ (e▸above y hy)) (λy hy z hz e=>name_of_addr x.apart (c:=y.2) hy (e▸hz))
 refine ⟨(H.lim.keeps toH).keeps kp,codeAny_func ?_⟩
 have fo:FrOK xL g:=⟨e2.trans (by rw[← hfd];rfl),(by rw[← hfd] at s1;exact s1),e3,e4,λn hn=>by
  show (env.cells.lookup n).isSome=true
  have:fd.scope.names.lookup n=some .cell:=by rw[← e2];exact hn
  rw[e1];exact cellsFrom_has (.inl (PySem.mem_of_lookup this)),rfl⟩
 obtain ⟨π,run,Ft⟩:=cov
 have rm9:Room (A.deeper env) 9:=rm.deeper
 rw[laB_eq]
 generalize hl:[la 1,la 2,la 3,la 4,la 5]=l
 have T:=sL0 B ha (la 0) rfl
 generalize la 0=st at T
 show wpAny _ (A.deeper env) (do match ←exec st g.cur with| .next=>execs l g.cur|f=>pure f) _ _ _
 refine wpAny_bind (T g _ (stA ns) _ (A.deeper env) _ _ (λs=>@decide (s=stP (stA ns) (ns.take 16)) (Classical.propDecidable _)) (λU U=>false) (λU=>false) fo (L0_of (ns:=ns) rfl (@decide_eq_true _ (Classical.propDecidable _) rfl)) rel' rm9 ?_ ?_ ?_)
 · intro s1 w1 σ1 q rel1 X1
   have:=@of_decide_eq_true _ (Classical.propDecidable _) q
   subst this
   exact law_tail B ha fo rel1 hn rm9 run Ft (λσ' k rs=>post σ' k rs) l hl.symm
 · intro v s1 w1 σ1 d rv q
   cases q
 · intro s1 w1 σ1 q
   cases q
end
noncomputable def cf0 (w:World) (s:Shared):Cf:=⟨PySem.Challenge.rw_rh0220_01.row.toRowW.prog,w,s.heap,s,rhoL [],clsA,Kf w.params,attL,λU=>none⟩
theorem ints_len {vs:List Value} {ns:List Int} (h:IntsAre vs ns):vs.length=ns.length:=by
 induction h with
 |nil=>rfl
 |cons n t _ ih=>simp[ih]
theorem script_rd {Pm:Params} {h:Heap} {x:Addr} {vs:List Value} {ns:List Int} (hI:IntsAre vs ns) (hW:Well Pm h (.ref x) (ofPy (.list (ns.map .int)))) (hL:h.IsList x vs.toArray) (hn:ns.length<64):Rd Pm w0 h (.lst (ns.map CD.int)) (.ref x):=by
 have hW:Well Pm h (.ref x) (.list (ofPys (ns.map .int))):=hW
 obtain ⟨o,h1,_,n,h2⟩:=hL
 cases hW with
 |@list _ us xs e wa=>
 rw[e] at h1
 cases h1
 injection h2 with h2 h3
 have:us=vs:=by simpa using congrArg Array.toList h2
 subst this
 refine .lst e rfl rfl ⟨λq=>q.elim,?_⟩ (by simpa using ints_of hI) rfl
 have:=ints_len hI
 rw[List.size_toArray]
 omega
theorem law_post (args:List WData):PySem.Challenge.rw_rh0220_01.row.toRowW.claim.post args (.bool true) args=true:=by
 refine Bool.and_eq_true_iff.mpr ⟨by rfl,?_⟩
 show WTm.holds _ (.eq .res (.lit (.bool true))) _=true
 simp[WTm.holds,WTm.value]
 rw[same_self]
theorem law_ends {w:World} {s₁:Shared} {cl:Str->Option Addr} {mean:ExcName->Option Value} {args:List WData} (hg:s₁.gens=#[]) {σ':Shared} (k:∀a o,s₁.heap.get? a=some o->σ'.heap.get? a=some o) (r:∃h tk,σ'={s₁ with heap:=h,toks:=tk}):
  GoodWG PySem.Challenge.rw_rh0220_01.row.toRowW.claim cl mean args s₁ (.ok (.ret (.bool true))) σ':=by
 obtain ⟨h,tk,rfl⟩:=r
 refine GoodW.toG ⟨.inl ⟨.bool true,.bool true,[],rfl,λU=>rfl,.bool _,law_post args,λU=>⟨.nil,λa h=>nomatch h⟩⟩,k,rfl,hg⟩
theorem law_walk {q:Program} {loose:List Str} {d:DefRec} {kwd:List (Str×Expr)} (hdn:d.name="law") (cover:∀zs,∃π,runX π (drw zs 0 2)=true∧Fits π (rhoL zs)):
  WalkO q loose (λU U=>True) (λw h=>(Kf w.params).In h) PySem.Challenge.rw_rh0220_01.row.toRowW d kwd λf vs=>PySem.call f vs:=by
 intro w s₀ s₁ mg mb G Y fa o pm cd doc dV kV ho hd hcd hD hmg hg args vals as hpre hlay hrd hwl hlo
 have B:Base (cf0 w s₁):={K:=rfl,kin:=Y,cls:=rfl,bn:=⟨mb,G.T.b,G.T.builtins⟩,lim:=G.T.nolimit,pin:=λp a e=>nomatch (show (none:Option Addr)=some a from e)}
 have hfa:fa=1640:=by
  obtain ⟨m,mb',h1,_,h2⟩:=B.glob (n:="law") (k:=sc "law") (rv:=.ref 1640) rfl rfl (by kernel_rfl)
  have e:=G.T.g.agree h1 "law"
  rw[hdn] at hmg
  rcases h2 with h2|⟨h2,_⟩
  · rw[hmg,h2] at e;cases e;rfl
  · rw[hmg,h2] at e;cases e
 subst hfa
 clear ho hd hcd hD hmg G
 refine enter_call ?_
 wrow_args hpre hlay hrd hwl hlo
 all_goals
  rename IntsAre _ _=>hI
  rename Well _ _ _ _=>hW
  rename Heap.IsList _ _ _=>hL
  rename ¬_<_=>hc
  have hn:_<64:=Nat.lt_of_not_le (λz=>hc (Int.ofNat_lt.mpr (Nat.lt_of_lt_of_le (by decide) z)))
  exact law_run (c:=cf0 w s₁) B rfl (λU=>rfl) rfl ⟨s₁.heap,s₁.toks,rfl⟩ (script_rd hI hW hL hn) hn ⟨rfl,by decide,by decide⟩ (cover _) λσ' k r=>law_ends (w:=w) hg k r
def pi000N:Pie:=⟨selT (one 4) (one 4) any4,clT (λU=>[bd2 0 5]) (fo4 [bd3 0 5 0 10 0 5] [bd3 0 5 0 4 0 4,bd3 0 5 5 10 0 5] [bd3 0 5 0 4 0 4,bd3 0 5 5 10 0 5] [bd3 0 5 0 4 0 4,bd3 0 5 5 10 0 5]),noT' true true true⟩
def pi001A:Pie:=⟨selT (one 4) (one 1) any4,clT (λU=>[bd2 5 5]) (fo4 [bd3 5 5 5 10 0 5] [bd3 5 5 5 10 0 5] [bd3 5 5 5 10 0 5] [bd3 5 5 5 9 0 4,bd3 5 5 10 10 5 5]),noT' true false true⟩
def pi001B:Pie:=⟨selT (one 4) (one 1) any4,clT (λU=>[bd2 0 4]) (fo4 [bd3 0 4 0 4 0 4,bd3 0 4 5 9 1 5] [bd3 0 4 0 9 0 5] [bd3 0 4 0 4 0 4,bd3 0 4 5 9 1 5] [bd3 0 4 0 4 0 4,bd3 0 4 5 9 1 5]),noT' true false true⟩
def pi002A:Pie:=⟨selT (one 4) (one 2) any4,clT (λU=>[bd2 5 5]) (fo4 [bd3 5 5 5 10 0 5] [bd3 5 5 5 10 0 5] [bd3 5 5 5 10 0 5] [bd3 5 5 5 10 0 5]),noT' true false true⟩
def pi002B:Pie:=⟨selT (one 4) (one 2) any4,clT (λU=>[bd2 0 4]) (fo4 [bd3 0 4 0 4 0 4,bd3 0 4 5 9 1 5] [bd3 0 4 0 4 0 4,bd3 0 4 5 9 1 5] [bd3 0 4 0 9 0 5] [bd3 0 4 0 4 0 4,bd3 0 4 5 9 1 5]),noT' true false true⟩
def pi003A:Pie:=⟨selT (one 4) (one 3) any4,clT (λU=>[bd2 5 5]) (fo4 [bd3 5 5 5 10 0 5] [bd3 5 5 5 9 0 4,bd3 5 5 10 10 5 5] [bd3 5 5 5 10 0 5] [bd3 5 5 5 10 0 5]),noT' true false true⟩
def pi003B:Pie:=⟨selT (one 4) (one 3) any4,clT (λU=>[bd2 0 4]) (fo4 [bd3 0 4 0 4 0 4,bd3 0 4 5 9 1 5] [bd3 0 4 0 4 0 4,bd3 0 4 5 9 1 5] [bd3 0 4 0 4 0 4,bd3 0 4 5 9 1 5] [bd3 0 4 0 9 0 5]),noT' true false true⟩
def pi010N:Pie:=⟨selT (one 1) (two 4 1) any4,clT (λU=>[bd2 0 5]) (fo4 [bd3 0 5 0 10 0 5] [bd3 0 5 0 10 0 5] [bd3 0 5 0 4 0 4,bd3 0 5 5 10 0 5] [bd3 0 5 0 4 0 4,bd3 0 5 5 10 0 5]),noT' false true true⟩
def pi012A:Pie:=⟨selT (one 1) (one 2) any4,clT (λU=>[bd2 5 5]) (fo4 [bd3 5 5 5 10 0 5] [bd3 5 5 5 10 0 5] [bd3 5 5 5 10 0 5] [bd3 5 5 5 10 0 5]),noT' false false true⟩
def pi012B:Pie:=⟨selT (one 1) (one 2) any4,clT (λU=>[bd2 0 4]) (fo4 [bd3 0 4 0 4 0 4,bd3 0 4 5 9 1 5] [bd3 0 4 0 9 0 5] [bd3 0 4 0 9 0 5] [bd3 0 4 0 4 0 4,bd3 0 4 5 9 1 5]),noT' false false true⟩
def pi013A:Pie:=⟨selT (one 1) (one 3) any4,clT (λU=>[bd2 5 5]) (fo4 [bd3 5 5 5 10 0 5] [bd3 5 5 5 10 0 5] [bd3 5 5 5 10 0 5] [bd3 5 5 5 10 0 5]),noT' false false true⟩
def pi013B:Pie:=⟨selT (one 1) (one 3) any4,clT (λU=>[bd2 0 4]) (fo4 [bd3 0 4 0 4 0 4,bd3 0 4 5 9 1 5] [bd3 0 4 0 9 0 5] [bd3 0 4 0 4 0 4,bd3 0 4 5 9 1 5] [bd3 0 4 0 9 0 5]),noT' false false true⟩
def pi020N:Pie:=⟨selT (one 2) (two 4 2) any4,clT (λU=>[bd2 0 5]) (fo4 [bd3 0 5 0 10 0 5] [bd3 0 5 0 4 0 4,bd3 0 5 5 10 0 5] [bd3 0 5 0 10 0 5] [bd3 0 5 0 4 0 4,bd3 0 5 5 10 0 5]),noT' false true true⟩
def pi021A:Pie:=⟨selT (one 2) (one 1) any4,clT (λU=>[bd2 5 5]) (fo4 [bd3 5 5 5 10 0 5] [bd3 5 5 5 10 0 5] [bd3 5 5 5 10 0 5] [bd3 5 5 5 9 0 4,bd3 5 5 10 10 5 5]),noT' false false true⟩
def pi021B:Pie:=⟨selT (one 2) (one 1) any4,clT (λU=>[bd2 0 4]) (fo4 [bd3 0 4 0 4 0 4,bd3 0 4 5 9 1 5] [bd3 0 4 0 9 0 5] [bd3 0 4 0 9 0 5] [bd3 0 4 0 4 0 4,bd3 0 4 5 9 1 5]),noT' false false true⟩
def pi023A:Pie:=⟨selT (one 2) (one 3) any4,clT (λU=>[bd2 5 5]) (fo4 [bd3 5 5 5 10 0 5] [bd3 5 5 5 9 0 4,bd3 5 5 10 10 5 5] [bd3 5 5 5 10 0 5] [bd3 5 5 5 10 0 5]),noT' false false true⟩
def pi023B:Pie:=⟨selT (one 2) (one 3) any4,clT (λU=>[bd2 0 4]) (fo4 [bd3 0 4 0 4 0 4,bd3 0 4 5 9 1 5] [bd3 0 4 0 4 0 4,bd3 0 4 5 9 1 5] [bd3 0 4 0 9 0 5] [bd3 0 4 0 9 0 5]),noT' false false true⟩
def pi030N:Pie:=⟨selT (one 3) (two 4 3) any4,clT (λU=>[bd2 0 5]) (fo4 [bd3 0 5 0 10 0 5] [bd3 0 5 0 4 0 4,bd3 0 5 5 10 0 5] [bd3 0 5 0 4 0 4,bd3 0 5 5 10 0 5] [bd3 0 5 0 10 0 5]),noT' false true true⟩
def pi031A:Pie:=⟨selT (one 3) (one 1) any4,clT (λU=>[bd2 5 5]) (fo4 [bd3 5 5 5 10 0 5] [bd3 5 5 5 10 0 5] [bd3 5 5 5 10 0 5] [bd3 5 5 5 10 0 5]),noT' false false true⟩
def pi031B:Pie:=⟨selT (one 3) (one 1) any4,clT (λU=>[bd2 0 4]) (fo4 [bd3 0 4 0 4 0 4,bd3 0 4 5 9 1 5] [bd3 0 4 0 9 0 5] [bd3 0 4 0 4 0 4,bd3 0 4 5 9 1 5] [bd3 0 4 0 9 0 5]),noT' false false true⟩
def pi032A:Pie:=⟨selT (one 3) (one 2) any4,clT (λU=>[bd2 5 5]) (fo4 [bd3 5 5 5 10 0 5] [bd3 5 5 5 10 0 5] [bd3 5 5 5 10 0 5] [bd3 5 5 5 10 0 5]),noT' false false true⟩
def pi032B:Pie:=⟨selT (one 3) (one 2) any4,clT (λU=>[bd2 0 4]) (fo4 [bd3 0 4 0 4 0 4,bd3 0 4 5 9 1 5] [bd3 0 4 0 4 0 4,bd3 0 4 5 9 1 5] [bd3 0 4 0 9 0 5] [bd3 0 4 0 9 0 5]),noT' false false true⟩
def pi100N:Pie:=⟨selT (one 4) (one 4) any4,clT (λU=>[bd2 0 5]) (fo4 [bd3 0 5 0 10 0 5] [bd3 0 5 0 4 0 4,bd3 0 5 5 10 0 5] [bd3 0 5 0 4 0 4,bd3 0 5 5 10 0 5] [bd3 0 5 0 4 0 4,bd3 0 5 5 10 0 5]),noT' true true true⟩
def pi101A:Pie:=⟨selT (one 4) (one 1) any4,clT (λU=>[bd2 5 5]) (fo4 [bd3 5 5 5 10 0 5] [bd3 5 5 5 10 0 5] [bd3 5 5 5 10 0 5] [bd3 5 5 5 10 0 5]),noT' true false true⟩
def pi101B:Pie:=⟨selT (one 4) (one 1) any4,clT (λU=>[bd2 0 4]) (fo4 [bd3 0 4 0 4 0 4,bd3 0 4 5 9 1 5] [bd3 0 4 0 9 0 5] [bd3 0 4 0 4 0 4,bd3 0 4 5 9 1 5] [bd3 0 4 0 4 0 4,bd3 0 4 5 9 1 5]),noT' true false true⟩
def pi102A:Pie:=⟨selT (one 4) (one 2) any4,clT (λU=>[bd2 5 5]) (fo4 [bd3 5 5 5 10 0 5] [bd3 5 5 5 10 0 5] [bd3 5 5 5 10 0 5] [bd3 5 5 5 9 0 4,bd3 5 5 10 10 5 5]),noT' true false true⟩
def pi102B:Pie:=⟨selT (one 4) (one 2) any4,clT (λU=>[bd2 0 4]) (fo4 [bd3 0 4 0 4 0 4,bd3 0 4 5 9 1 5] [bd3 0 4 0 4 0 4,bd3 0 4 5 9 1 5] [bd3 0 4 0 9 0 5] [bd3 0 4 0 4 0 4,bd3 0 4 5 9 1 5]),noT' true false true⟩
def pi103A:Pie:=⟨selT (one 4) (one 3) any4,clT (λU=>[bd2 5 5]) (fo4 [bd3 5 5 5 10 0 5] [bd3 5 5 5 10 0 5] [bd3 5 5 5 9 0 4,bd3 5 5 10 10 5 5] [bd3 5 5 5 10 0 5]),noT' true false true⟩
def pi103B:Pie:=⟨selT (one 4) (one 3) any4,clT (λU=>[bd2 0 4]) (fo4 [bd3 0 4 0 4 0 4,bd3 0 4 5 9 1 5] [bd3 0 4 0 4 0 4,bd3 0 4 5 9 1 5] [bd3 0 4 0 4 0 4,bd3 0 4 5 9 1 5] [bd3 0 4 0 9 0 5]),noT' true false true⟩
def pi110N:Pie:=⟨selT (one 1) (two 4 1) any4,clT (λU=>[bd2 0 5]) (fo4 [bd3 0 5 0 10 0 5] [bd3 0 5 0 10 0 5] [bd3 0 5 0 4 0 4,bd3 0 5 5 10 0 5] [bd3 0 5 0 4 0 4,bd3 0 5 5 10 0 5]),noT' false true true⟩
def pi112A:Pie:=⟨selT (one 1) (one 2) any4,clT (λU=>[bd2 5 5]) (fo4 [bd3 5 5 5 10 0 5] [bd3 5 5 5 10 0 5] [bd3 5 5 5 10 0 5] [bd3 5 5 5 9 0 4,bd3 5 5 10 10 5 5]),noT' false false true⟩
def pi112B:Pie:=⟨selT (one 1) (one 2) any4,clT (λU=>[bd2 0 4]) (fo4 [bd3 0 4 0 4 0 4,bd3 0 4 5 9 1 5] [bd3 0 4 0 9 0 5] [bd3 0 4 0 9 0 5] [bd3 0 4 0 4 0 4,bd3 0 4 5 9 1 5]),noT' false false true⟩
def pi113A:Pie:=⟨selT (one 1) (one 3) any4,clT (λU=>[bd2 5 5]) (fo4 [bd3 5 5 5 10 0 5] [bd3 5 5 5 10 0 5] [bd3 5 5 5 9 0 4,bd3 5 5 10 10 5 5] [bd3 5 5 5 10 0 5]),noT' false false true⟩
def pi113B:Pie:=⟨selT (one 1) (one 3) any4,clT (λU=>[bd2 0 4]) (fo4 [bd3 0 4 0 4 0 4,bd3 0 4 5 9 1 5] [bd3 0 4 0 9 0 5] [bd3 0 4 0 4 0 4,bd3 0 4 5 9 1 5] [bd3 0 4 0 9 0 5]),noT' false false true⟩
def pi120N:Pie:=⟨selT (one 2) (two 4 2) any4,clT (λU=>[bd2 0 5]) (fo4 [bd3 0 5 0 10 0 5] [bd3 0 5 0 4 0 4,bd3 0 5 5 10 0 5] [bd3 0 5 0 10 0 5] [bd3 0 5 0 4 0 4,bd3 0 5 5 10 0 5]),noT' false true true⟩
def pi121A:Pie:=⟨selT (one 2) (one 1) any4,clT (λU=>[bd2 5 5]) (fo4 [bd3 5 5 5 10 0 5] [bd3 5 5 5 10 0 5] [bd3 5 5 5 10 0 5] [bd3 5 5 5 10 0 5]),noT' false false true⟩
def pi121B:Pie:=⟨selT (one 2) (one 1) any4,clT (λU=>[bd2 0 4]) (fo4 [bd3 0 4 0 4 0 4,bd3 0 4 5 9 1 5] [bd3 0 4 0 9 0 5] [bd3 0 4 0 9 0 5] [bd3 0 4 0 4 0 4,bd3 0 4 5 9 1 5]),noT' false false true⟩
def pi123A:Pie:=⟨selT (one 2) (one 3) any4,clT (λU=>[bd2 5 5]) (fo4 [bd3 5 5 5 10 0 5] [bd3 5 5 5 10 0 5] [bd3 5 5 5 10 0 5] [bd3 5 5 5 10 0 5]),noT' false false true⟩
def pi123B:Pie:=⟨selT (one 2) (one 3) any4,clT (λU=>[bd2 0 4]) (fo4 [bd3 0 4 0 4 0 4,bd3 0 4 5 9 1 5] [bd3 0 4 0 4 0 4,bd3 0 4 5 9 1 5] [bd3 0 4 0 9 0 5] [bd3 0 4 0 9 0 5]),noT' false false true⟩
def pi130N:Pie:=⟨selT (one 3) (two 4 3) any4,clT (λU=>[bd2 0 5]) (fo4 [bd3 0 5 0 10 0 5] [bd3 0 5 0 4 0 4,bd3 0 5 5 10 0 5] [bd3 0 5 0 4 0 4,bd3 0 5 5 10 0 5] [bd3 0 5 0 10 0 5]),noT' false true true⟩
def pi131A:Pie:=⟨selT (one 3) (one 1) any4,clT (λU=>[bd2 5 5]) (fo4 [bd3 5 5 5 10 0 5] [bd3 5 5 5 10 0 5] [bd3 5 5 5 10 0 5] [bd3 5 5 5 10 0 5]),noT' false false true⟩
def pi131B:Pie:=⟨selT (one 3) (one 1) any4,clT (λU=>[bd2 0 4]) (fo4 [bd3 0 4 0 4 0 4,bd3 0 4 5 9 1 5] [bd3 0 4 0 9 0 5] [bd3 0 4 0 4 0 4,bd3 0 4 5 9 1 5] [bd3 0 4 0 9 0 5]),noT' false false true⟩
def pi132A:Pie:=⟨selT (one 3) (one 2) any4,clT (λU=>[bd2 5 5]) (fo4 [bd3 5 5 5 10 0 5] [bd3 5 5 5 10 0 5] [bd3 5 5 5 10 0 5] [bd3 5 5 5 10 0 5]),noT' false false true⟩
def pi132B:Pie:=⟨selT (one 3) (one 2) any4,clT (λU=>[bd2 0 4]) (fo4 [bd3 0 4 0 4 0 4,bd3 0 4 5 9 1 5] [bd3 0 4 0 4 0 4,bd3 0 4 5 9 1 5] [bd3 0 4 0 9 0 5] [bd3 0 4 0 9 0 5]),noT' false false true⟩
theorem x000N:runX pi000N 0=true:=by decide +kernel
theorem x001A:runX pi001A 0=true:=by decide +kernel
theorem x001B:runX pi001B 0=true:=by decide +kernel
theorem x002A:runX pi002A 0=true:=by decide +kernel
theorem x002B:runX pi002B 0=true:=by decide +kernel
theorem x003A:runX pi003A 0=true:=by decide +kernel
theorem x003B:runX pi003B 0=true:=by decide +kernel
theorem x010N:runX pi010N 0=true:=by decide +kernel
theorem x012A:runX pi012A 0=true:=by decide +kernel
theorem x012B:runX pi012B 0=true:=by decide +kernel
theorem x013A:runX pi013A 0=true:=by decide +kernel
theorem x013B:runX pi013B 0=true:=by decide +kernel
theorem x020N:runX pi020N 0=true:=by decide +kernel
theorem x021A:runX pi021A 0=true:=by decide +kernel
theorem x021B:runX pi021B 0=true:=by decide +kernel
theorem x023A:runX pi023A 0=true:=by decide +kernel
theorem x023B:runX pi023B 0=true:=by decide +kernel
theorem x030N:runX pi030N 0=true:=by decide +kernel
theorem x031A:runX pi031A 0=true:=by decide +kernel
theorem x031B:runX pi031B 0=true:=by decide +kernel
theorem x032A:runX pi032A 0=true:=by decide +kernel
theorem x032B:runX pi032B 0=true:=by decide +kernel
theorem x100N:runX pi100N 1=true:=by decide +kernel
theorem x101A:runX pi101A 1=true:=by decide +kernel
theorem x101B:runX pi101B 1=true:=by decide +kernel
theorem x102A:runX pi102A 1=true:=by decide +kernel
theorem x102B:runX pi102B 1=true:=by decide +kernel
theorem x103A:runX pi103A 1=true:=by decide +kernel
theorem x103B:runX pi103B 1=true:=by decide +kernel
theorem x110N:runX pi110N 1=true:=by decide +kernel
theorem x112A:runX pi112A 1=true:=by decide +kernel
theorem x112B:runX pi112B 1=true:=by decide +kernel
theorem x113A:runX pi113A 1=true:=by decide +kernel
theorem x113B:runX pi113B 1=true:=by decide +kernel
theorem x120N:runX pi120N 1=true:=by decide +kernel
theorem x121A:runX pi121A 1=true:=by decide +kernel
theorem x121B:runX pi121B 1=true:=by decide +kernel
theorem x123A:runX pi123A 1=true:=by decide +kernel
theorem x123B:runX pi123B 1=true:=by decide +kernel
theorem x130N:runX pi130N 1=true:=by decide +kernel
theorem x131A:runX pi131A 1=true:=by decide +kernel
theorem x131B:runX pi131B 1=true:=by decide +kernel
theorem x132A:runX pi132A 1=true:=by decide +kernel
theorem x132B:runX pi132B 1=true:=by decide +kernel
def pies:List (Nat×Pie):=[(0,pi000N),(0,pi001A),(0,pi001B),(0,pi002A),(0,pi002B),(0,pi003A),(0,pi003B),(0,pi010N),(0,pi012A),(0,pi012B),(0,pi013A),(0,pi013B),(0,pi020N),(0,pi021A),(0,pi021B),(0,pi023A),(0,pi023B),(0,pi030N),(0,pi031A),(0,pi031B),(0,pi032A),(0,pi032B),(1,pi100N),(1,pi101A),(1,pi101B),(1,pi102A),(1,pi102B),(1,pi103A),(1,pi103B),(1,pi110N),(1,pi112A),(1,pi112B),(1,pi113A),(1,pi113B),(1,pi120N),(1,pi121A),(1,pi121B),(1,pi123A),(1,pi123B),(1,pi130N),(1,pi131A),(1,pi131B),(1,pi132A),(1,pi132B)]
theorem pies_run:∀p∈pies,runX p.2 p.1=true:=by
 simp only[pies,List.forall_mem_cons]
 exact ⟨x000N,x001A,x001B,x002A,x002B,x003A,x003B,x010N,x012A,x012B,x013A,x013B,x020N,x021A,x021B,x023A,x023B,x030N,x031A,x031B,x032A,x032B,x100N,x101A,x101B,x102A,x102B,x103A,x103B,x110N,x112A,x112B,x113A,x113B,x120N,x121A,x121B,x123A,x123B,x130N,x131A,x131B,x132A,x132B,λU h=>nomatch h⟩
section
section
open Z
theorem cover:coverB pies=true:=by decide +kernel
theorem q_some:(defOf qv "law").isSome=true:=by kernel_rfl
theorem q_hp:((defOf qv "law").map λx=>(x.1.params,x.1.body,x.1.scope))=pw.theDef "law":=by kernel_rfl
theorem q_hk:((defOf qv "law").map λx=>kwWritten? x.1.params.kwonlyargs x.1.params.kw_defaults)=(defOf qv "law").map λx=>some x.2:=by kernel_rfl
theorem q_w:PySem.Challenge.rw_rh0220_01.row.toRowW.promised:=by w_witness2
theorem join (said:PySem.Challenge.rw_rh0220_01.row.wellSaid=true):PySem.Challenge.rw_rh0220_01.row.Holds:=by
 obtain ⟨⟨d,kwd⟩,hd⟩:=Option.isSome_iff_exists.mp q_some
 have hp:=q_hp
 have hk:=q_hk
 rw[hd] at hp hk
 exact row_holds said hd hp.symm (Option.some.inj hk) q_w (law_walk (defOf_name hd) (cover_of cover pies_run))
end
end
end
end Mine
set_option maxHeartbeats 8000000 in
theorem PySem.Challenge.cw_rh0220_01_holds : PySem.Challenge.rw_rh0220_01.Holds := by
  w_on
  exact holds_law Mine.said fun said => Mine.join said
